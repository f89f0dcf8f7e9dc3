import PyProof.Rows.All
import Wide.All
import OpenK.AllK
import Wide.FinOn
import Lean
import PySem.Challenge.RW_sj0059_01
open PySem PySem.W PyProof.Rows
set_option Elab.async false
set_option maxRecDepth 100000
set_option maxHeartbeats 8000000
set_option linter.unusedVariables false
namespace Mine
-- H2
noncomputable section
/-- the statement at place i of the text's body -/
noncomputable def stAt (i : Nat) : Stmt := (PySem.Challenge.pw_sj0059_01.main.body[i]?).getD (.Pass ⟨0, 0, 0, 0⟩)
noncomputable def mtIn (st : Stmt) (j : Nat) : Stmt := match st with
  | .ClassDef _ _ _ b .. => (b[j]?).getD (.Pass ⟨0, 0, 0, 0⟩)
  | _ => .Pass ⟨0, 0, 0, 0⟩
noncomputable def mtAt (i j : Nat) : Stmt := mtIn (stAt i) j
noncomputable def prm (st : Stmt) : Arguments := match st with
  | .FunctionDef _ a .. => a
  | _ => ⟨[], [], none, [], [], none, []⟩
noncomputable def bod (st : Stmt) : List Stmt := match st with
  | .FunctionDef _ _ b .. => b
  | _ => []
noncomputable def scp (st : Stmt) : Scope := match st with
  | .FunctionDef _ _ _ _ _ _ sc .. => sc
  | _ => { kind := .function, names := [], isGenerator := false, isCoroutine := false, more := [] }
noncomputable def ent (P : Params) (x : String) (t : Nat) (v : Value) : DictEntry := ⟨PyData.keyHash P (Str.ofString x), .str (Str.ofString x) t, v⟩
noncomputable def KK (P : Params) : Frag := [
  (1, ⟨(.type "dict"), none, .dict #[ent P "builtins" 162 (.ref 4), ent P "__main__" 163 (.ref 5)] 2, #[]⟩),
  (3, ⟨(.type "dict"), none, .dict #[ent P "__name__" 165 (.str (Str.ofString "law_sj0059_01") 879), ent P "__doc__" 166 .none, ent P "__package__" 167 .none, ent P "__loader__" 168 (.builtin "__main__.__loader__#opaque"), ent P "__spec__" 169 .none, ent P "__annotations__" 170 (.ref 6), ent P "__builtins__" 171 (.ref 4), ent P "__file__" 173 (.str (Str.ofString "/claim/cut.py") 172), ent P "__cached__" 174 .none, ent P "_wall" 193 (.ref 21), ent P "Aig" 326 (.ref 116), ent P "literal_word" 335 (.ref 127), ent P "variable_of" 345 (.ref 134), ent P "cone_nodes" 351 (.ref 354), ent P "cone_nodes_cnf" 352 (.ref 139), ent P "aig_cnf" 366 (.ref 146), ent P "RESTART_UNIT" 370 (.int 32 369), ent P "ACTIVITY_LIMIT" 374 (.int 1000000000000 373), ent P "ACTIVITY_SCALE" 378 (.int 1000000 377), ent P "luby" 387 (.ref 153), ent P "slot" 394 (.ref 160), ent P "plain_clause" 403 (.ref 167), ent P "Solver" 630 (.ref 322), ent P "full_table" 639 (.ref 333), ent P "var_table" 648 (.ref 340), ent P "low_bit" 656 (.ref 347), ent P "cone_nodes_equiv" 672 (.ref 354), ent P "cone_inputs" 678 (.ref 359), ent P "cone_words" 694 (.ref 366), ent P "table_difference" 711 (.ref 373), ent P "TABLE_INPUTS" 715 (.int 6 714), ent P "pattern_count" 724 (.ref 380), ent P "Signatures" 813 (.ref 439), ent P "solver_parting" 830 (.ref 450), ent P "parting" 843 (.ref 457), ent P "next_candidate" 853 (.ref 464), ent P "equal_literal" 867 (.ref 471), ent P "settle_node" 878 (.ref 478), ent P "_law_pick" 891 (.ref 485), ent P "_law_column" 901 (.ref 492), ent P "_law_settled" 932 (.ref 499), ent P "law" 938 (.ref 504)] 42, #[]⟩),
  (34, ⟨(.type "code"), none, .fields #[(.str (Str.ofString "__init__") 208), (.str (Str.ofString "Aig.__init__") 209), (.str (Str.ofString "/claim/cut.py") 210), (.int 7 0), (.int 1 0), (.int 0 0), (.int 0 0), (.int 3 0), (.ref 29), (.bool true), (.int 181 0), (.ref 30), .none, (.ref 31), (.ref 32), (.ref 33), (.int 212 0), (.int 7 0), (.str (Str.ofString "/claim/cut.py") 213)], #[]⟩),
  (35, ⟨(.type "function"), none, .func (fnOf "__init__" "Aig.__init__" (prm (mtAt 2 0)) (bod (mtAt 2 0)) (scp (mtAt 2 0)) .none .none .none (.str (Str.ofString "gateloom.aig") 194) none (.ref 34) .none), #[]⟩),
  (41, ⟨(.type "code"), none, .fields #[(.str (Str.ofString "add_input") 215), (.str (Str.ofString "Aig.add_input") 216), (.str (Str.ofString "/claim/cut.py") 217), (.int 13 0), (.int 1 0), (.int 0 0), (.int 0 0), (.int 3 0), (.ref 36), (.bool true), (.int 181 0), (.ref 37), .none, (.ref 38), (.ref 39), (.ref 40), (.int 220 0), (.int 13 0), (.str (Str.ofString "/claim/cut.py") 221)], #[]⟩),
  (42, ⟨(.type "function"), none, .func (fnOf "add_input" "Aig.add_input" (prm (mtAt 2 1)) (bod (mtAt 2 1)) (scp (mtAt 2 1)) .none .none .none (.str (Str.ofString "gateloom.aig") 194) none (.ref 41) .none), #[]⟩),
  (55, ⟨(.type "code"), none, .fields #[(.str (Str.ofString "is_and") 231), (.str (Str.ofString "Aig.is_and") 232), (.str (Str.ofString "/claim/cut.py") 233), (.int 22 0), (.int 2 0), (.int 0 0), (.int 0 0), (.int 3 0), (.ref 50), (.bool true), (.int 181 0), (.ref 51), .none, (.ref 52), (.ref 53), (.ref 54), (.int 236 0), (.int 22 0), (.str (Str.ofString "/claim/cut.py") 237)], #[]⟩),
  (56, ⟨(.type "function"), none, .func (fnOf "is_and" "Aig.is_and" (prm (mtAt 2 3)) (bod (mtAt 2 3)) (scp (mtAt 2 3)) .none .none .none (.str (Str.ofString "gateloom.aig") 194) none (.ref 55) .none), #[]⟩),
  (62, ⟨(.type "code"), none, .fields #[(.str (Str.ofString "land") 239), (.str (Str.ofString "Aig.land") 240), (.str (Str.ofString "/claim/cut.py") 241), (.int 25 0), (.int 3 0), (.int 0 0), (.int 0 0), (.int 3 0), (.ref 57), (.bool true), (.int 181 0), (.ref 58), .none, (.ref 59), (.ref 60), (.ref 61), (.int 246 0), (.int 25 0), (.str (Str.ofString "/claim/cut.py") 247)], #[]⟩),
  (63, ⟨(.type "function"), none, .func (fnOf "land" "Aig.land" (prm (mtAt 2 4)) (bod (mtAt 2 4)) (scp (mtAt 2 4)) .none .none .none (.str (Str.ofString "gateloom.aig") 194) none (.ref 62) .none), #[]⟩),
  (106, ⟨(.type "tuple"), none, .seq #[(.int 1 300)] 0, #[]⟩),
  (112, ⟨(.type "code"), none, .fields #[(.str (Str.ofString "value") 301), (.str (Str.ofString "Aig.value") 302), (.str (Str.ofString "/claim/cut.py") 303), (.int 63 0), (.int 3 0), (.int 0 0), (.int 0 0), (.int 3 0), (.ref 107), (.bool true), (.int 181 0), (.ref 108), .none, (.ref 109), (.ref 110), (.ref 111), (.int 312 0), (.int 63 0), (.str (Str.ofString "/claim/cut.py") 313)], #[]⟩),
  (113, ⟨(.type "function"), none, .func (fnOf "value" "Aig.value" (prm (mtAt 2 11)) (bod (mtAt 2 11)) (scp (mtAt 2 11)) (.ref 106) .none .none (.str (Str.ofString "gateloom.aig") 194) none (.ref 112) .none), #[]⟩),
  (115, ⟨(.type "dict"), none, .dict #[ent P "__module__" 203 (.str (Str.ofString "gateloom.aig") 194), ent P "__firstlineno__" 207 (.int 5 206), ent P "__init__" 214 (.ref 35), ent P "add_input" 222 (.ref 42), ent P "add_output" 230 (.ref 49), ent P "is_and" 238 (.ref 56), ent P "land" 248 (.ref 63), ent P "lor" 257 (.ref 70), ent P "lxor" 266 (.ref 77), ent P "lmux" 276 (.ref 84), ent P "levels" 285 (.ref 91), ent P "users" 292 (.ref 98), ent P "uses" 299 (.ref 105), ent P "value" 314 (.ref 113), ent P "__static_attributes__" 319 (.ref 114), ent P "__dict__" 321 (.ref 117), ent P "__weakref__" 323 (.ref 118), ent P "__doc__" 324 .none] 4, #[]⟩),
  (116, ⟨(.type "type"), none, .cls { name := "Aig", bases := [(.type "object")], mro := [(.ref 116), (.type "object")], ns := 115, qualname := "Aig", hasDict := true, slotNames := [], subclasses := [], abstract := false, collection := none, hasDel := false }, #[none, none, some (.str (Str.ofString "Aig") 196), some (.str (Str.ofString "Aig") 204), some (.builtin "object.__new__"), some (.bool true)]⟩),
  (126, ⟨(.type "code"), none, .fields #[(.str (Str.ofString "literal_word") 327), (.str (Str.ofString "literal_word") 328), (.str (Str.ofString "/claim/cut.py") 329), (.int 73 0), (.int 3 0), (.int 0 0), (.int 0 0), (.int 3 0), (.ref 121), (.bool true), (.int 181 0), (.ref 122), .none, (.ref 123), (.ref 124), (.ref 125), (.int 333 0), (.int 73 0), (.str (Str.ofString "/claim/cut.py") 334)], #[]⟩),
  (127, ⟨(.type "function"), none, .func (fnOf "literal_word" "literal_word" (prm (stAt 3)) (bod (stAt 3)) (scp (stAt 3)) .none .none .none (.str (Str.ofString "gateloom.aig") 194) none (.ref 126) .none), #[]⟩),
  (332, ⟨(.type "code"), none, .fields #[(.str (Str.ofString "full_table") 633), (.str (Str.ofString "full_table") 634), (.str (Str.ofString "/claim/cut.py") 635), (.int 354 0), (.int 1 0), (.int 0 0), (.int 0 0), (.int 3 0), (.ref 327), (.bool true), (.int 181 0), (.ref 328), .none, (.ref 329), (.ref 330), (.ref 331), (.int 637 0), (.int 354 0), (.str (Str.ofString "/claim/cut.py") 638)], #[]⟩),
  (333, ⟨(.type "function"), none, .func (fnOf "full_table" "full_table" (prm (stAt 18)) (bod (stAt 18)) (scp (stAt 18)) .none .none .none (.str (Str.ofString "gateloom.truth") 631) none (.ref 332) .none), #[]⟩),
  (339, ⟨(.type "code"), none, .fields #[(.str (Str.ofString "var_table") 640), (.str (Str.ofString "var_table") 641), (.str (Str.ofString "/claim/cut.py") 642), (.int 356 0), (.int 2 0), (.int 0 0), (.int 0 0), (.int 3 0), (.ref 334), (.bool true), (.int 181 0), (.ref 335), .none, (.ref 336), (.ref 337), (.ref 338), (.int 646 0), (.int 356 0), (.str (Str.ofString "/claim/cut.py") 647)], #[]⟩),
  (340, ⟨(.type "function"), none, .func (fnOf "var_table" "var_table" (prm (stAt 19)) (bod (stAt 19)) (scp (stAt 19)) .none .none .none (.str (Str.ofString "gateloom.truth") 631) none (.ref 339) .none), #[]⟩),
  (346, ⟨(.type "code"), none, .fields #[(.str (Str.ofString "low_bit") 649), (.str (Str.ofString "low_bit") 650), (.str (Str.ofString "/claim/cut.py") 651), (.int 359 0), (.int 1 0), (.int 0 0), (.int 0 0), (.int 3 0), (.ref 341), (.bool true), (.int 181 0), (.ref 342), .none, (.ref 343), (.ref 344), (.ref 345), (.int 654 0), (.int 359 0), (.str (Str.ofString "/claim/cut.py") 655)], #[]⟩),
  (347, ⟨(.type "function"), none, .func (fnOf "low_bit" "low_bit" (prm (stAt 20)) (bod (stAt 20)) (scp (stAt 20)) .none .none .none (.str (Str.ofString "gateloom.truth") 631) none (.ref 346) .none), #[]⟩),
  (353, ⟨(.type "code"), none, .fields #[(.str (Str.ofString "cone_nodes") 659), (.str (Str.ofString "cone_nodes") 660), (.str (Str.ofString "/claim/cut.py") 661), (.int 365 0), (.int 2 0), (.int 0 0), (.int 0 0), (.int 3 0), (.ref 348), (.bool true), (.int 181 0), (.ref 349), .none, (.ref 350), (.ref 351), (.ref 352), (.int 669 0), (.int 365 0), (.str (Str.ofString "/claim/cut.py") 670)], #[]⟩),
  (354, ⟨(.type "function"), none, .func (fnOf "cone_nodes" "cone_nodes" (prm (stAt 22)) (bod (stAt 22)) (scp (stAt 22)) .none .none .none (.str (Str.ofString "gateloom.equiv") 657) none (.ref 353) .none), #[]⟩),
  (358, ⟨(.type "code"), none, .fields #[(.str (Str.ofString "cone_inputs") 673), (.str (Str.ofString "cone_inputs") 674), (.str (Str.ofString "/claim/cut.py") 675), (.int 380 0), (.int 2 0), (.int 0 0), (.int 0 0), (.int 3 0), (.ref 355), (.bool true), (.int 181 0), (.ref 356), .none, .none, .none, (.ref 357), (.int 676 0), (.int 380 0), (.str (Str.ofString "/claim/cut.py") 677)], #[]⟩),
  (359, ⟨(.type "function"), none, .func (fnOf "cone_inputs" "cone_inputs" (prm (stAt 24)) (bod (stAt 24)) (scp (stAt 24)) .none .none .none (.str (Str.ofString "gateloom.equiv") 657) none (.ref 358) .none), #[]⟩),
  (365, ⟨(.type "code"), none, .fields #[(.str (Str.ofString "cone_words") 679), (.str (Str.ofString "cone_words") 680), (.str (Str.ofString "/claim/cut.py") 681), (.int 382 0), (.int 3 0), (.int 0 0), (.int 0 0), (.int 3 0), (.ref 360), (.bool true), (.int 181 0), (.ref 361), .none, (.ref 362), (.ref 363), (.ref 364), (.int 692 0), (.int 382 0), (.str (Str.ofString "/claim/cut.py") 693)], #[]⟩),
  (366, ⟨(.type "function"), none, .func (fnOf "cone_words" "cone_words" (prm (stAt 25)) (bod (stAt 25)) (scp (stAt 25)) .none .none .none (.str (Str.ofString "gateloom.equiv") 657) none (.ref 365) .none), #[]⟩),
  (372, ⟨(.type "code"), none, .fields #[(.str (Str.ofString "table_difference") 695), (.str (Str.ofString "table_difference") 696), (.str (Str.ofString "/claim/cut.py") 697), (.int 394 0), (.int 5 0), (.int 0 0), (.int 0 0), (.int 3 0), (.ref 367), (.bool true), (.int 181 0), (.ref 368), .none, (.ref 369), (.ref 370), (.ref 371), (.int 709 0), (.int 394 0), (.str (Str.ofString "/claim/cut.py") 710)], #[]⟩),
  (373, ⟨(.type "function"), none, .func (fnOf "table_difference" "table_difference" (prm (stAt 26)) (bod (stAt 26)) (scp (stAt 26)) .none .none .none (.str (Str.ofString "gateloom.equiv") 657) none (.ref 372) .none), #[]⟩),
  (379, ⟨(.type "code"), none, .fields #[(.str (Str.ofString "pattern_count") 716), (.str (Str.ofString "pattern_count") 717), (.str (Str.ofString "/claim/cut.py") 718), (.int 407 0), (.int 1 0), (.int 0 0), (.int 0 0), (.int 3 0), (.ref 374), (.bool true), (.int 181 0), (.ref 375), .none, (.ref 376), (.ref 377), (.ref 378), (.int 722 0), (.int 407 0), (.str (Str.ofString "/claim/cut.py") 723)], #[]⟩),
  (380, ⟨(.type "function"), none, .func (fnOf "pattern_count" "pattern_count" (prm (stAt 29)) (bod (stAt 29)) (scp (stAt 29)) .none .none .none (.str (Str.ofString "gateloom.fraig") 712) none (.ref 379) .none), #[]⟩),
  (393, ⟨(.type "code"), none, .fields #[(.str (Str.ofString "__init__") 737), (.str (Str.ofString "Signatures.__init__") 738), (.str (Str.ofString "/claim/cut.py") 739), (.int 414 0), (.int 3 0), (.int 0 0), (.int 0 0), (.int 3 0), (.ref 388), (.bool true), (.int 181 0), (.ref 389), .none, (.ref 390), (.ref 391), (.ref 392), (.int 744 0), (.int 414 0), (.str (Str.ofString "/claim/cut.py") 745)], #[]⟩),
  (394, ⟨(.type "function"), none, .func (fnOf "__init__" "Signatures.__init__" (prm (mtAt 30 0)) (bod (mtAt 30 0)) (scp (mtAt 30 0)) .none .none .none (.str (Str.ofString "gateloom.fraig") 712) none (.ref 393) .none), #[]⟩),
  (400, ⟨(.type "code"), none, .fields #[(.str (Str.ofString "mask") 747), (.str (Str.ofString "Signatures.mask") 748), (.str (Str.ofString "/claim/cut.py") 749), (.int 425 0), (.int 1 0), (.int 0 0), (.int 0 0), (.int 3 0), (.ref 395), (.bool true), (.int 181 0), (.ref 396), .none, (.ref 397), (.ref 398), (.ref 399), (.int 751 0), (.int 425 0), (.str (Str.ofString "/claim/cut.py") 752)], #[]⟩),
  (401, ⟨(.type "function"), none, .func (fnOf "mask" "Signatures.mask" (prm (mtAt 30 1)) (bod (mtAt 30 1)) (scp (mtAt 30 1)) .none .none .none (.str (Str.ofString "gateloom.fraig") 712) none (.ref 400) .none), #[]⟩),
  (407, ⟨(.type "code"), none, .fields #[(.str (Str.ofString "refresh") 754), (.str (Str.ofString "Signatures.refresh") 755), (.str (Str.ofString "/claim/cut.py") 756), (.int 428 0), (.int 1 0), (.int 0 0), (.int 0 0), (.int 3 0), (.ref 402), (.bool true), (.int 181 0), (.ref 403), .none, (.ref 404), (.ref 405), (.ref 406), (.int 759 0), (.int 428 0), (.str (Str.ofString "/claim/cut.py") 760)], #[]⟩),
  (408, ⟨(.type "function"), none, .func (fnOf "refresh" "Signatures.refresh" (prm (mtAt 30 2)) (bod (mtAt 30 2)) (scp (mtAt 30 2)) .none .none .none (.str (Str.ofString "gateloom.fraig") 712) none (.ref 407) .none), #[]⟩),
  (414, ⟨(.type "code"), none, .fields #[(.str (Str.ofString "normal") 762), (.str (Str.ofString "Signatures.normal") 763), (.str (Str.ofString "/claim/cut.py") 764), (.int 434 0), (.int 2 0), (.int 0 0), (.int 0 0), (.int 3 0), (.ref 409), (.bool true), (.int 181 0), (.ref 410), .none, (.ref 411), (.ref 412), (.ref 413), (.int 768 0), (.int 434 0), (.str (Str.ofString "/claim/cut.py") 769)], #[]⟩),
  (415, ⟨(.type "function"), none, .func (fnOf "normal" "Signatures.normal" (prm (mtAt 30 3)) (bod (mtAt 30 3)) (scp (mtAt 30 3)) .none .none .none (.str (Str.ofString "gateloom.fraig") 712) none (.ref 414) .none), #[]⟩),
  (421, ⟨(.type "code"), none, .fields #[(.str (Str.ofString "follow") 771), (.str (Str.ofString "Signatures.follow") 772), (.str (Str.ofString "/claim/cut.py") 773), (.int 440 0), (.int 2 0), (.int 0 0), (.int 0 0), (.int 3 0), (.ref 416), (.bool true), (.int 181 0), (.ref 417), .none, (.ref 418), (.ref 419), (.ref 420), (.int 779 0), (.int 440 0), (.str (Str.ofString "/claim/cut.py") 780)], #[]⟩),
  (422, ⟨(.type "function"), none, .func (fnOf "follow" "Signatures.follow" (prm (mtAt 30 4)) (bod (mtAt 30 4)) (scp (mtAt 30 4)) .none .none .none (.str (Str.ofString "gateloom.fraig") 712) none (.ref 421) .none), #[]⟩),
  (428, ⟨(.type "code"), none, .fields #[(.str (Str.ofString "keep") 782), (.str (Str.ofString "Signatures.keep") 783), (.str (Str.ofString "/claim/cut.py") 784), (.int 445 0), (.int 2 0), (.int 0 0), (.int 0 0), (.int 3 0), (.ref 423), (.bool true), (.int 181 0), (.ref 424), .none, (.ref 425), (.ref 426), (.ref 427), (.int 787 0), (.int 445 0), (.str (Str.ofString "/claim/cut.py") 788)], #[]⟩),
  (429, ⟨(.type "function"), none, .func (fnOf "keep" "Signatures.keep" (prm (mtAt 30 5)) (bod (mtAt 30 5)) (scp (mtAt 30 5)) .none .none .none (.str (Str.ofString "gateloom.fraig") 712) none (.ref 428) .none), #[]⟩),
  (435, ⟨(.type "code"), none, .fields #[(.str (Str.ofString "add_pattern") 790), (.str (Str.ofString "Signatures.add_pattern") 791), (.str (Str.ofString "/claim/cut.py") 792), (.int 449 0), (.int 2 0), (.int 0 0), (.int 0 0), (.int 3 0), (.ref 430), (.bool true), (.int 181 0), (.ref 431), .none, (.ref 432), (.ref 433), (.ref 434), (.int 797 0), (.int 449 0), (.str (Str.ofString "/claim/cut.py") 798)], #[]⟩),
  (436, ⟨(.type "function"), none, .func (fnOf "add_pattern" "Signatures.add_pattern" (prm (mtAt 30 6)) (bod (mtAt 30 6)) (scp (mtAt 30 6)) .none .none .none (.str (Str.ofString "gateloom.fraig") 712) none (.ref 435) .none), #[]⟩),
  (438, ⟨(.type "dict"), none, .dict #[ent P "__module__" 732 (.str (Str.ofString "gateloom.fraig") 712), ent P "__firstlineno__" 736 (.int 412 735), ent P "__init__" 746 (.ref 394), ent P "mask" 753 (.ref 401), ent P "refresh" 761 (.ref 408), ent P "normal" 770 (.ref 415), ent P "follow" 781 (.ref 422), ent P "keep" 789 (.ref 429), ent P "add_pattern" 799 (.ref 436), ent P "__static_attributes__" 806 (.ref 437), ent P "__dict__" 808 (.ref 440), ent P "__weakref__" 810 (.ref 441), ent P "__doc__" 811 .none] 4, #[]⟩),
  (439, ⟨(.type "type"), none, .cls { name := "Signatures", bases := [(.type "object")], mro := [(.ref 439), (.type "object")], ns := 438, qualname := "Signatures", hasDict := true, slotNames := [], subclasses := [], abstract := false, collection := none, hasDel := false }, #[none, none, some (.str (Str.ofString "Signatures") 725), some (.str (Str.ofString "Signatures") 733), some (.builtin "object.__new__"), some (.bool true)]⟩),
  (456, ⟨(.type "code"), none, .fields #[(.str (Str.ofString "parting") 831), (.str (Str.ofString "parting") 832), (.str (Str.ofString "/claim/cut.py") 833), (.int 470 0), (.int 4 0), (.int 0 0), (.int 0 0), (.int 3 0), (.ref 451), (.bool true), (.int 181 0), (.ref 452), .none, (.ref 453), (.ref 454), (.ref 455), (.int 841 0), (.int 470 0), (.str (Str.ofString "/claim/cut.py") 842)], #[]⟩),
  (457, ⟨(.type "function"), none, .func (fnOf "parting" "parting" (prm (stAt 32)) (bod (stAt 32)) (scp (stAt 32)) .none .none .none (.str (Str.ofString "gateloom.fraig") 712) none (.ref 456) .none), #[]⟩),
  (463, ⟨(.type "code"), none, .fields #[(.str (Str.ofString "next_candidate") 844), (.str (Str.ofString "next_candidate") 845), (.str (Str.ofString "/claim/cut.py") 846), (.int 477 0), (.int 3 0), (.int 0 0), (.int 0 0), (.int 3 0), (.ref 458), (.bool true), (.int 181 0), (.ref 459), .none, (.ref 460), (.ref 461), (.ref 462), (.int 851 0), (.int 477 0), (.str (Str.ofString "/claim/cut.py") 852)], #[]⟩),
  (464, ⟨(.type "function"), none, .func (fnOf "next_candidate" "next_candidate" (prm (stAt 33)) (bod (stAt 33)) (scp (stAt 33)) .none .none .none (.str (Str.ofString "gateloom.fraig") 712) none (.ref 463) .none), #[]⟩),
  (470, ⟨(.type "code"), none, .fields #[(.str (Str.ofString "equal_literal") 854), (.str (Str.ofString "equal_literal") 855), (.str (Str.ofString "/claim/cut.py") 856), (.int 482 0), (.int 3 0), (.int 0 0), (.int 0 0), (.int 3 0), (.ref 465), (.bool true), (.int 181 0), (.ref 466), .none, (.ref 467), (.ref 468), (.ref 469), (.int 865 0), (.int 482 0), (.str (Str.ofString "/claim/cut.py") 866)], #[]⟩),
  (471, ⟨(.type "function"), none, .func (fnOf "equal_literal" "equal_literal" (prm (stAt 34)) (bod (stAt 34)) (scp (stAt 34)) .none .none .none (.str (Str.ofString "gateloom.fraig") 712) none (.ref 470) .none), #[]⟩),
  (477, ⟨(.type "code"), none, .fields #[(.str (Str.ofString "settle_node") 868), (.str (Str.ofString "settle_node") 869), (.str (Str.ofString "/claim/cut.py") 870), (.int 497 0), (.int 3 0), (.int 0 0), (.int 0 0), (.int 3 0), (.ref 472), (.bool true), (.int 181 0), (.ref 473), .none, (.ref 474), (.ref 475), (.ref 476), (.int 876 0), (.int 497 0), (.str (Str.ofString "/claim/cut.py") 877)], #[]⟩),
  (478, ⟨(.type "function"), none, .func (fnOf "settle_node" "settle_node" (prm (stAt 35)) (bod (stAt 35)) (scp (stAt 35)) .none .none .none (.str (Str.ofString "gateloom.fraig") 712) none (.ref 477) .none), #[]⟩),
  (484, ⟨(.type "code"), none, .fields #[(.str (Str.ofString "_law_pick") 881), (.str (Str.ofString "_law_pick") 882), (.str (Str.ofString "/claim/cut.py") 883), (.int 506 0), (.int 3 0), (.int 0 0), (.int 0 0), (.int 3 0), (.ref 479), (.bool true), (.int 181 0), (.ref 480), .none, (.ref 481), (.ref 482), (.ref 483), (.int 889 0), (.int 506 0), (.str (Str.ofString "/claim/cut.py") 890)], #[]⟩),
  (485, ⟨(.type "function"), none, .func (fnOf "_law_pick" "_law_pick" (prm (stAt 37)) (bod (stAt 37)) (scp (stAt 37)) .none .none .none (.str (Str.ofString "law_sj0059_01") 879) none (.ref 484) .none), #[]⟩),
  (491, ⟨(.type "code"), none, .fields #[(.str (Str.ofString "_law_column") 892), (.str (Str.ofString "_law_column") 893), (.str (Str.ofString "/claim/cut.py") 894), (.int 521 0), (.int 2 0), (.int 0 0), (.int 0 0), (.int 3 0), (.ref 486), (.bool true), (.int 181 0), (.ref 487), .none, (.ref 488), (.ref 489), (.ref 490), (.int 899 0), (.int 521 0), (.str (Str.ofString "/claim/cut.py") 900)], #[]⟩),
  (492, ⟨(.type "function"), none, .func (fnOf "_law_column" "_law_column" (prm (stAt 38)) (bod (stAt 38)) (scp (stAt 38)) .none .none .none (.str (Str.ofString "law_sj0059_01") 879) none (.ref 491) .none), #[]⟩),
  (498, ⟨(.type "code"), none, .fields #[(.str (Str.ofString "_law_settled") 902), (.str (Str.ofString "_law_settled") 903), (.str (Str.ofString "/claim/cut.py") 904), (.int 526 0), (.int 3 0), (.int 0 0), (.int 0 0), (.int 3 0), (.ref 493), (.bool true), (.int 181 0), (.ref 494), .none, (.ref 495), (.ref 496), (.ref 497), (.int 930 0), (.int 526 0), (.str (Str.ofString "/claim/cut.py") 931)], #[]⟩),
  (499, ⟨(.type "function"), none, .func (fnOf "_law_settled" "_law_settled" (prm (stAt 39)) (bod (stAt 39)) (scp (stAt 39)) .none .none .none (.str (Str.ofString "law_sj0059_01") 879) none (.ref 498) .none), #[]⟩),
  (503, ⟨(.type "code"), none, .fields #[(.str (Str.ofString "law") 933), (.str (Str.ofString "law") 934), (.str (Str.ofString "/claim/cut.py") 935), (.int 584 0), (.int 1 0), (.int 0 0), (.int 0 0), (.int 3 0), (.ref 500), (.bool true), (.int 181 0), (.ref 501), .none, .none, .none, (.ref 502), (.int 936 0), (.int 584 0), (.str (Str.ofString "/claim/cut.py") 937)], #[]⟩),
  (504, ⟨(.type "function"), none, .func (fnOf "law" "law" (prm (stAt 40)) (bod (stAt 40)) (scp (stAt 40)) .none .none .none (.str (Str.ofString "law_sj0059_01") 879) none (.ref 503) .none), #[]⟩)]
noncomputable def KA : List Addr := [1, 3, 34, 35, 41, 42, 55, 56, 62, 63, 106, 112, 113, 115, 116, 126, 127, 332, 333, 339, 340, 346, 347, 353, 354, 358, 359, 365, 366, 372, 373, 379, 380, 393, 394, 400, 401, 407, 408, 414, 415, 421, 422, 428, 429, 435, 436, 438, 439, 456, 457, 463, 464, 470, 471, 477, 478, 484, 485, 491, 492, 498, 499, 503, 504]
theorem KA_eq : ∀ P, KA = (KK P).map (·.1) := fun P => by kernel_rfl
noncomputable def hook : Hook := kHook KK KA KA_eq
noncomputable def looseN : List Str := [Str.ofString "cone_nodes_cnf", Str.ofString "ACTIVITY_LIMIT", Str.ofString "ACTIVITY_SCALE", Str.ofString "Solver", Str.ofString "cone_nodes_equiv"]
noncomputable def litV : List (Str × WData) := [(Str.ofString "ACTIVITY_LIMIT", WData.int 1000000000000), (Str.ofString "ACTIVITY_SCALE", WData.int 1000000)]
noncomputable def keepIx : List Nat := [0, 2, 3, 5, 7, 8, 10, 11, 12, 13, 14, 15, 16, 18, 19, 20, 22, 23, 24, 25, 26, 28, 29, 30, 31, 32, 33, 34, 35, 37, 38, 39, 40]
noncomputable def view : Program := { PySem.Challenge.pw_sj0059_01 with main := { PySem.Challenge.pw_sj0059_01.main with body := keepIx.map stAt } }
/-- the heap at a cut of the text: what changes, and the objects behind -/
noncomputable def stK (P : Params) (g x : Obj) (tl : List Obj) : List Obj :=
  boot_o_0 P ::
  ⟨(.type "dict"), none, .dict #[ent P "builtins" 162 (.ref 4), ent P "__main__" 163 (.ref 5)] 2, #[]⟩ ::
  ⟨.none, none, .dict #[] 0, #[]⟩ ::
  g ::
  ⟨(.type "module"), (some 0), .plain, #[]⟩ ::
  ⟨(.type "module"), (some 3), .plain, #[]⟩ ::
  ⟨(.type "dict"), none, .dict #[] 0, #[]⟩ ::
  ⟨(.type "tuple"), none, .seq #[] 0, #[]⟩ ::
  ⟨.none, none, .fields #[], #[]⟩ ::
  ⟨(.type "code"), none, .fields #[(.str (Str.ofString "<module>") 176), (.str (Str.ofString "<module>") 177), (.str (Str.ofString "/claim/cut.py") 178), (.int 1 0), (.int 0 0), (.int 0 0), (.int 0 0), (.int 0 0), (.ref 7), (.bool false), (.int 175 0), (.ref 8), .none, .none, .none, .none, (.int 179 0), (.int 1 0), (.str (Str.ofString "/claim/cut.py") 180)], #[]⟩ ::
  ⟨(.type "frame"), none, .plain, #[some (.ref 9), some (.ref 3), some (.ref 3), none, some (.str (Str.ofString "__main__") 164), none, some (.ref 0)]⟩ ::
  ⟨(.type "tuple"), none, .seq #[] 0, #[]⟩ ::
  x ::
  ⟨(.type "code"), none, .fields #[(.str (Str.ofString "<module>") 182), (.str (Str.ofString "<module>") 183), (.str (Str.ofString "/claim/cut.py") 184), (.int 1 0), (.int 0 0), (.int 0 0), (.int 0 0), (.int 0 0), (.ref 11), (.bool false), (.int 181 0), (.ref 12), .none, .none, .none, .none, (.int 185 0), (.int 1 0), (.str (Str.ofString "/claim/cut.py") 186)], #[]⟩ ::
  ⟨(.type "frame"), none, .plain, #[some (.ref 13), some (.ref 3), some (.ref 3), none, some (.str (Str.ofString "__main__") 164), none, some (.ref 0)]⟩ ::
  tl
noncomputable def stA (P : Params) : List Obj := stK P
  ⟨(.type "dict"), none, .dict #[ent P "__name__" 165 (.str (Str.ofString "__main__") 164), ent P "__doc__" 166 .none, ent P "__package__" 167 .none, ent P "__loader__" 168 (.builtin "__main__.__loader__#opaque"), ent P "__spec__" 169 .none, ent P "__annotations__" 170 (.ref 6), ent P "__builtins__" 171 (.ref 4), ent P "__file__" 173 (.str (Str.ofString "/claim/cut.py") 172), ent P "__cached__" 174 .none] 9, #[]⟩
  ⟨.none, none, .fields #[], #[]⟩ []
noncomputable def c15 (P : Params) (tl : List Obj) : List Obj :=
  ⟨(.type "tuple"), none, .seq #[] 0, #[]⟩ ::
  ⟨.none, none, .fields #[], #[]⟩ ::
  ⟨(.type "tuple"), none, .seq #[(.str (Str.ofString "k") 190)] 0, #[]⟩ ::
  ⟨(.type "tuple"), none, .seq #[] 0, #[]⟩ ::
  ⟨.none, none, .func { name := (Str.ofString "_wall"), qualname := (Str.ofString "_wall"), params := prm (stAt 0), body := .stmts (bod (stAt 0)), scope := scp (stAt 0), globals := 0, closure := [], defaults := .none, kwdefaults := .none, doc := .none, pyModule := .none, annotations := none, code := .none, closureTuple := .none, builtins := 0 }, #[]⟩ ::
  ⟨(.type "code"), none, .fields #[(.str (Str.ofString "_wall") 187), (.str (Str.ofString "_wall") 188), (.str (Str.ofString "/claim/cut.py") 189), (.int 1 0), (.int 1 0), (.int 0 0), (.int 0 0), (.int 3 0), (.ref 15), (.bool true), (.int 181 0), (.ref 16), .none, (.ref 17), (.ref 18), (.ref 19), (.int 191 0), (.int 1 0), (.str (Str.ofString "/claim/cut.py") 192)], #[]⟩ ::
  ⟨(.type "function"), none, .func (fnOf (Str.ofString "_wall") (Str.ofString "_wall") (prm (stAt 0)) (bod (stAt 0)) (scp (stAt 0)) .none .none .none (.str (Str.ofString "__main__") 164) none (.ref 20) .none), #[]⟩ ::
  ⟨(.type "tuple"), none, .seq #[] 0, #[]⟩ ::
  ⟨(.type "builtin_function_or_method"), none, .fields #[(.builtin "type.__prepare__"), (.type "type")], #[]⟩ ::
  ⟨(.type "dict"), none, .dict #[ent P "__module__" 203 (.str (Str.ofString "gateloom.aig") 194), ent P "__qualname__" 205 (.str (Str.ofString "Aig") 204), ent P "__firstlineno__" 207 (.int 5 206), ent P "__init__" 214 (.ref 35), ent P "add_input" 222 (.ref 42), ent P "add_output" 230 (.ref 49), ent P "is_and" 238 (.ref 56), ent P "land" 248 (.ref 63), ent P "lor" 257 (.ref 70), ent P "lxor" 266 (.ref 77), ent P "lmux" 276 (.ref 84), ent P "levels" 285 (.ref 91), ent P "users" 292 (.ref 98), ent P "uses" 299 (.ref 105), ent P "value" 314 (.ref 113), ent P "__static_attributes__" 319 (.ref 114)] 16, #[]⟩ ::
  ⟨(.type "tuple"), none, .seq #[] 0, #[]⟩ ::
  ⟨.none, none, .fields #[(.int 7 0), (.int 4 0), (.ref 34), (.int 13 0), (.int 4 0), (.ref 41), (.int 19 0), (.int 4 0), (.ref 48), (.int 22 0), (.int 4 0), (.ref 55), (.int 25 0), (.int 4 0), (.ref 62), (.int 39 0), (.int 4 0), (.ref 69), (.int 42 0), (.int 4 0), (.ref 76), (.int 45 0), (.int 4 0), (.ref 83), (.int 48 0), (.int 4 0), (.ref 90), (.int 57 0), (.int 4 0), (.ref 97), (.int 60 0), (.int 4 0), (.ref 104), (.int 63 0), (.int 4 0), (.ref 112)], #[]⟩ ::
  ⟨(.type "code"), none, .fields #[(.str (Str.ofString "Aig") 198), (.str (Str.ofString "Aig") 199), (.str (Str.ofString "/claim/cut.py") 200), (.int 5 0), (.int 0 0), (.int 0 0), (.int 0 0), (.int 0 0), (.ref 25), (.bool false), (.int 181 0), (.ref 26), .none, .none, .none, .none, (.int 201 0), (.int 5 0), (.str (Str.ofString "/claim/cut.py") 202)], #[]⟩ ::
  ⟨(.type "frame"), none, .plain, #[some (.ref 27), some (.ref 3), some (.ref 24), none, some (.str (Str.ofString "gateloom.aig") 194), none, some (.ref 0)]⟩ ::
  ⟨(.type "tuple"), none, .seq #[] 0, #[]⟩ ::
  ⟨.none, none, .fields #[], #[]⟩ ::
  ⟨(.type "tuple"), none, .seq #[(.str (Str.ofString "self") 211)] 0, #[]⟩ ::
  ⟨(.type "tuple"), none, .seq #[] 0, #[]⟩ ::
  ⟨.none, none, .func { name := (Str.ofString "__init__"), qualname := (Str.ofString "Aig.__init__"), params := prm (mtAt 2 0), body := .stmts (bod (mtAt 2 0)), scope := scp (mtAt 2 0), globals := 0, closure := [], defaults := .none, kwdefaults := .none, doc := .none, pyModule := .none, annotations := none, code := .none, closureTuple := .none, builtins := 0 }, #[]⟩ ::
  ⟨(.type "code"), none, .fields #[(.str (Str.ofString "__init__") 208), (.str (Str.ofString "Aig.__init__") 209), (.str (Str.ofString "/claim/cut.py") 210), (.int 7 0), (.int 1 0), (.int 0 0), (.int 0 0), (.int 3 0), (.ref 29), (.bool true), (.int 181 0), (.ref 30), .none, (.ref 31), (.ref 32), (.ref 33), (.int 212 0), (.int 7 0), (.str (Str.ofString "/claim/cut.py") 213)], #[]⟩ ::
  ⟨(.type "function"), none, .func (fnOf (Str.ofString "__init__") (Str.ofString "Aig.__init__") (prm (mtAt 2 0)) (bod (mtAt 2 0)) (scp (mtAt 2 0)) .none .none .none (.str (Str.ofString "gateloom.aig") 194) none (.ref 34) .none), #[]⟩ ::
  ⟨(.type "tuple"), none, .seq #[] 0, #[]⟩ ::
  ⟨.none, none, .fields #[], #[]⟩ ::
  ⟨(.type "tuple"), none, .seq #[(.str (Str.ofString "self") 218), (.str (Str.ofString "node") 219)] 0, #[]⟩ ::
  ⟨(.type "tuple"), none, .seq #[] 0, #[]⟩ ::
  ⟨.none, none, .func { name := (Str.ofString "add_input"), qualname := (Str.ofString "Aig.add_input"), params := prm (mtAt 2 1), body := .stmts (bod (mtAt 2 1)), scope := scp (mtAt 2 1), globals := 0, closure := [], defaults := .none, kwdefaults := .none, doc := .none, pyModule := .none, annotations := none, code := .none, closureTuple := .none, builtins := 0 }, #[]⟩ ::
  ⟨(.type "code"), none, .fields #[(.str (Str.ofString "add_input") 215), (.str (Str.ofString "Aig.add_input") 216), (.str (Str.ofString "/claim/cut.py") 217), (.int 13 0), (.int 1 0), (.int 0 0), (.int 0 0), (.int 3 0), (.ref 36), (.bool true), (.int 181 0), (.ref 37), .none, (.ref 38), (.ref 39), (.ref 40), (.int 220 0), (.int 13 0), (.str (Str.ofString "/claim/cut.py") 221)], #[]⟩ ::
  ⟨(.type "function"), none, .func (fnOf (Str.ofString "add_input") (Str.ofString "Aig.add_input") (prm (mtAt 2 1)) (bod (mtAt 2 1)) (scp (mtAt 2 1)) .none .none .none (.str (Str.ofString "gateloom.aig") 194) none (.ref 41) .none), #[]⟩ ::
  ⟨(.type "tuple"), none, .seq #[] 0, #[]⟩ ::
  ⟨.none, none, .fields #[], #[]⟩ ::
  ⟨(.type "tuple"), none, .seq #[(.str (Str.ofString "self") 226), (.str (Str.ofString "literal") 227)] 0, #[]⟩ ::
  ⟨(.type "tuple"), none, .seq #[] 0, #[]⟩ ::
  ⟨.none, none, .func { name := (Str.ofString "add_output"), qualname := (Str.ofString "Aig.add_output"), params := prm (mtAt 2 2), body := .stmts (bod (mtAt 2 2)), scope := scp (mtAt 2 2), globals := 0, closure := [], defaults := .none, kwdefaults := .none, doc := .none, pyModule := .none, annotations := none, code := .none, closureTuple := .none, builtins := 0 }, #[]⟩ ::
  ⟨(.type "code"), none, .fields #[(.str (Str.ofString "add_output") 223), (.str (Str.ofString "Aig.add_output") 224), (.str (Str.ofString "/claim/cut.py") 225), (.int 19 0), (.int 2 0), (.int 0 0), (.int 0 0), (.int 3 0), (.ref 43), (.bool true), (.int 181 0), (.ref 44), .none, (.ref 45), (.ref 46), (.ref 47), (.int 228 0), (.int 19 0), (.str (Str.ofString "/claim/cut.py") 229)], #[]⟩ ::
  ⟨(.type "function"), none, .func (fnOf (Str.ofString "add_output") (Str.ofString "Aig.add_output") (prm (mtAt 2 2)) (bod (mtAt 2 2)) (scp (mtAt 2 2)) .none .none .none (.str (Str.ofString "gateloom.aig") 194) none (.ref 48) .none), #[]⟩ ::
  ⟨(.type "tuple"), none, .seq #[] 0, #[]⟩ ::
  ⟨.none, none, .fields #[], #[]⟩ ::
  ⟨(.type "tuple"), none, .seq #[(.str (Str.ofString "self") 234), (.str (Str.ofString "node") 235)] 0, #[]⟩ ::
  ⟨(.type "tuple"), none, .seq #[] 0, #[]⟩ ::
  ⟨.none, none, .func { name := (Str.ofString "is_and"), qualname := (Str.ofString "Aig.is_and"), params := prm (mtAt 2 3), body := .stmts (bod (mtAt 2 3)), scope := scp (mtAt 2 3), globals := 0, closure := [], defaults := .none, kwdefaults := .none, doc := .none, pyModule := .none, annotations := none, code := .none, closureTuple := .none, builtins := 0 }, #[]⟩ ::
  ⟨(.type "code"), none, .fields #[(.str (Str.ofString "is_and") 231), (.str (Str.ofString "Aig.is_and") 232), (.str (Str.ofString "/claim/cut.py") 233), (.int 22 0), (.int 2 0), (.int 0 0), (.int 0 0), (.int 3 0), (.ref 50), (.bool true), (.int 181 0), (.ref 51), .none, (.ref 52), (.ref 53), (.ref 54), (.int 236 0), (.int 22 0), (.str (Str.ofString "/claim/cut.py") 237)], #[]⟩ ::
  ⟨(.type "function"), none, .func (fnOf (Str.ofString "is_and") (Str.ofString "Aig.is_and") (prm (mtAt 2 3)) (bod (mtAt 2 3)) (scp (mtAt 2 3)) .none .none .none (.str (Str.ofString "gateloom.aig") 194) none (.ref 55) .none), #[]⟩ ::
  ⟨(.type "tuple"), none, .seq #[] 0, #[]⟩ ::
  ⟨.none, none, .fields #[], #[]⟩ ::
  ⟨(.type "tuple"), none, .seq #[(.str (Str.ofString "self") 242), (.str (Str.ofString "l") 243), (.str (Str.ofString "r") 244), (.str (Str.ofString "node") 245)] 0, #[]⟩ ::
  ⟨(.type "tuple"), none, .seq #[] 0, #[]⟩ ::
  ⟨.none, none, .func { name := (Str.ofString "land"), qualname := (Str.ofString "Aig.land"), params := prm (mtAt 2 4), body := .stmts (bod (mtAt 2 4)), scope := scp (mtAt 2 4), globals := 0, closure := [], defaults := .none, kwdefaults := .none, doc := .none, pyModule := .none, annotations := none, code := .none, closureTuple := .none, builtins := 0 }, #[]⟩ ::
  ⟨(.type "code"), none, .fields #[(.str (Str.ofString "land") 239), (.str (Str.ofString "Aig.land") 240), (.str (Str.ofString "/claim/cut.py") 241), (.int 25 0), (.int 3 0), (.int 0 0), (.int 0 0), (.int 3 0), (.ref 57), (.bool true), (.int 181 0), (.ref 58), .none, (.ref 59), (.ref 60), (.ref 61), (.int 246 0), (.int 25 0), (.str (Str.ofString "/claim/cut.py") 247)], #[]⟩ ::
  ⟨(.type "function"), none, .func (fnOf (Str.ofString "land") (Str.ofString "Aig.land") (prm (mtAt 2 4)) (bod (mtAt 2 4)) (scp (mtAt 2 4)) .none .none .none (.str (Str.ofString "gateloom.aig") 194) none (.ref 62) .none), #[]⟩ ::
  ⟨(.type "tuple"), none, .seq #[] 0, #[]⟩ ::
  ⟨.none, none, .fields #[], #[]⟩ ::
  ⟨(.type "tuple"), none, .seq #[(.str (Str.ofString "self") 252), (.str (Str.ofString "l") 253), (.str (Str.ofString "r") 254)] 0, #[]⟩ ::
  ⟨(.type "tuple"), none, .seq #[] 0, #[]⟩ ::
  ⟨.none, none, .func { name := (Str.ofString "lor"), qualname := (Str.ofString "Aig.lor"), params := prm (mtAt 2 5), body := .stmts (bod (mtAt 2 5)), scope := scp (mtAt 2 5), globals := 0, closure := [], defaults := .none, kwdefaults := .none, doc := .none, pyModule := .none, annotations := none, code := .none, closureTuple := .none, builtins := 0 }, #[]⟩ ::
  ⟨(.type "code"), none, .fields #[(.str (Str.ofString "lor") 249), (.str (Str.ofString "Aig.lor") 250), (.str (Str.ofString "/claim/cut.py") 251), (.int 39 0), (.int 3 0), (.int 0 0), (.int 0 0), (.int 3 0), (.ref 64), (.bool true), (.int 181 0), (.ref 65), .none, (.ref 66), (.ref 67), (.ref 68), (.int 255 0), (.int 39 0), (.str (Str.ofString "/claim/cut.py") 256)], #[]⟩ ::
  ⟨(.type "function"), none, .func (fnOf (Str.ofString "lor") (Str.ofString "Aig.lor") (prm (mtAt 2 5)) (bod (mtAt 2 5)) (scp (mtAt 2 5)) .none .none .none (.str (Str.ofString "gateloom.aig") 194) none (.ref 69) .none), #[]⟩ ::
  ⟨(.type "tuple"), none, .seq #[] 0, #[]⟩ ::
  ⟨.none, none, .fields #[], #[]⟩ ::
  ⟨(.type "tuple"), none, .seq #[(.str (Str.ofString "self") 261), (.str (Str.ofString "l") 262), (.str (Str.ofString "r") 263)] 0, #[]⟩ ::
  ⟨(.type "tuple"), none, .seq #[] 0, #[]⟩ ::
  ⟨.none, none, .func { name := (Str.ofString "lxor"), qualname := (Str.ofString "Aig.lxor"), params := prm (mtAt 2 6), body := .stmts (bod (mtAt 2 6)), scope := scp (mtAt 2 6), globals := 0, closure := [], defaults := .none, kwdefaults := .none, doc := .none, pyModule := .none, annotations := none, code := .none, closureTuple := .none, builtins := 0 }, #[]⟩ ::
  ⟨(.type "code"), none, .fields #[(.str (Str.ofString "lxor") 258), (.str (Str.ofString "Aig.lxor") 259), (.str (Str.ofString "/claim/cut.py") 260), (.int 42 0), (.int 3 0), (.int 0 0), (.int 0 0), (.int 3 0), (.ref 71), (.bool true), (.int 181 0), (.ref 72), .none, (.ref 73), (.ref 74), (.ref 75), (.int 264 0), (.int 42 0), (.str (Str.ofString "/claim/cut.py") 265)], #[]⟩ ::
  ⟨(.type "function"), none, .func (fnOf (Str.ofString "lxor") (Str.ofString "Aig.lxor") (prm (mtAt 2 6)) (bod (mtAt 2 6)) (scp (mtAt 2 6)) .none .none .none (.str (Str.ofString "gateloom.aig") 194) none (.ref 76) .none), #[]⟩ ::
  ⟨(.type "tuple"), none, .seq #[] 0, #[]⟩ ::
  ⟨.none, none, .fields #[], #[]⟩ ::
  ⟨(.type "tuple"), none, .seq #[(.str (Str.ofString "self") 270), (.str (Str.ofString "s") 271), (.str (Str.ofString "a") 272), (.str (Str.ofString "b") 273)] 0, #[]⟩ ::
  ⟨(.type "tuple"), none, .seq #[] 0, #[]⟩ ::
  ⟨.none, none, .func { name := (Str.ofString "lmux"), qualname := (Str.ofString "Aig.lmux"), params := prm (mtAt 2 7), body := .stmts (bod (mtAt 2 7)), scope := scp (mtAt 2 7), globals := 0, closure := [], defaults := .none, kwdefaults := .none, doc := .none, pyModule := .none, annotations := none, code := .none, closureTuple := .none, builtins := 0 }, #[]⟩ ::
  ⟨(.type "code"), none, .fields #[(.str (Str.ofString "lmux") 267), (.str (Str.ofString "Aig.lmux") 268), (.str (Str.ofString "/claim/cut.py") 269), (.int 45 0), (.int 4 0), (.int 0 0), (.int 0 0), (.int 3 0), (.ref 78), (.bool true), (.int 181 0), (.ref 79), .none, (.ref 80), (.ref 81), (.ref 82), (.int 274 0), (.int 45 0), (.str (Str.ofString "/claim/cut.py") 275)], #[]⟩ ::
  ⟨(.type "function"), none, .func (fnOf (Str.ofString "lmux") (Str.ofString "Aig.lmux") (prm (mtAt 2 7)) (bod (mtAt 2 7)) (scp (mtAt 2 7)) .none .none .none (.str (Str.ofString "gateloom.aig") 194) none (.ref 83) .none), #[]⟩ ::
  ⟨(.type "tuple"), none, .seq #[] 0, #[]⟩ ::
  ⟨.none, none, .fields #[], #[]⟩ ::
  ⟨(.type "tuple"), none, .seq #[(.str (Str.ofString "self") 280), (.str (Str.ofString "rows") 281), (.str (Str.ofString "pair") 282)] 0, #[]⟩ ::
  ⟨(.type "tuple"), none, .seq #[] 0, #[]⟩ ::
  ⟨.none, none, .func { name := (Str.ofString "levels"), qualname := (Str.ofString "Aig.levels"), params := prm (mtAt 2 8), body := .stmts (bod (mtAt 2 8)), scope := scp (mtAt 2 8), globals := 0, closure := [], defaults := .none, kwdefaults := .none, doc := .none, pyModule := .none, annotations := none, code := .none, closureTuple := .none, builtins := 0 }, #[]⟩ ::
  ⟨(.type "code"), none, .fields #[(.str (Str.ofString "levels") 277), (.str (Str.ofString "Aig.levels") 278), (.str (Str.ofString "/claim/cut.py") 279), (.int 48 0), (.int 1 0), (.int 0 0), (.int 0 0), (.int 3 0), (.ref 85), (.bool true), (.int 181 0), (.ref 86), .none, (.ref 87), (.ref 88), (.ref 89), (.int 283 0), (.int 48 0), (.str (Str.ofString "/claim/cut.py") 284)], #[]⟩ ::
  ⟨(.type "function"), none, .func (fnOf (Str.ofString "levels") (Str.ofString "Aig.levels") (prm (mtAt 2 8)) (bod (mtAt 2 8)) (scp (mtAt 2 8)) .none .none .none (.str (Str.ofString "gateloom.aig") 194) none (.ref 90) .none), #[]⟩ ::
  ⟨(.type "tuple"), none, .seq #[] 0, #[]⟩ ::
  ⟨.none, none, .fields #[], #[]⟩ ::
  ⟨(.type "tuple"), none, .seq #[(.str (Str.ofString "self") 289)] 0, #[]⟩ ::
  ⟨(.type "tuple"), none, .seq #[] 0, #[]⟩ ::
  ⟨.none, none, .func { name := (Str.ofString "users"), qualname := (Str.ofString "Aig.users"), params := prm (mtAt 2 9), body := .stmts (bod (mtAt 2 9)), scope := scp (mtAt 2 9), globals := 0, closure := [], defaults := .none, kwdefaults := .none, doc := .none, pyModule := .none, annotations := none, code := .none, closureTuple := .none, builtins := 0 }, #[]⟩ ::
  ⟨(.type "code"), none, .fields #[(.str (Str.ofString "users") 286), (.str (Str.ofString "Aig.users") 287), (.str (Str.ofString "/claim/cut.py") 288), (.int 57 0), (.int 1 0), (.int 0 0), (.int 0 0), (.int 3 0), (.ref 92), (.bool true), (.int 181 0), (.ref 93), .none, (.ref 94), (.ref 95), (.ref 96), (.int 290 0), (.int 57 0), (.str (Str.ofString "/claim/cut.py") 291)], #[]⟩ ::
  ⟨(.type "function"), none, .func (fnOf (Str.ofString "users") (Str.ofString "Aig.users") (prm (mtAt 2 9)) (bod (mtAt 2 9)) (scp (mtAt 2 9)) .none .none .none (.str (Str.ofString "gateloom.aig") 194) none (.ref 97) .none), #[]⟩ ::
  ⟨(.type "tuple"), none, .seq #[] 0, #[]⟩ ::
  ⟨.none, none, .fields #[], #[]⟩ ::
  ⟨(.type "tuple"), none, .seq #[(.str (Str.ofString "self") 296)] 0, #[]⟩ ::
  ⟨(.type "tuple"), none, .seq #[] 0, #[]⟩ ::
  ⟨.none, none, .func { name := (Str.ofString "uses"), qualname := (Str.ofString "Aig.uses"), params := prm (mtAt 2 10), body := .stmts (bod (mtAt 2 10)), scope := scp (mtAt 2 10), globals := 0, closure := [], defaults := .none, kwdefaults := .none, doc := .none, pyModule := .none, annotations := none, code := .none, closureTuple := .none, builtins := 0 }, #[]⟩ ::
  ⟨(.type "code"), none, .fields #[(.str (Str.ofString "uses") 293), (.str (Str.ofString "Aig.uses") 294), (.str (Str.ofString "/claim/cut.py") 295), (.int 60 0), (.int 1 0), (.int 0 0), (.int 0 0), (.int 3 0), (.ref 99), (.bool true), (.int 181 0), (.ref 100), .none, (.ref 101), (.ref 102), (.ref 103), (.int 297 0), (.int 60 0), (.str (Str.ofString "/claim/cut.py") 298)], #[]⟩ ::
  ⟨(.type "function"), none, .func (fnOf (Str.ofString "uses") (Str.ofString "Aig.uses") (prm (mtAt 2 10)) (bod (mtAt 2 10)) (scp (mtAt 2 10)) .none .none .none (.str (Str.ofString "gateloom.aig") 194) none (.ref 104) .none), #[]⟩ ::
  ⟨(.type "tuple"), none, .seq #[(.int 1 300)] 0, #[]⟩ ::
  ⟨(.type "tuple"), none, .seq #[] 0, #[]⟩ ::
  ⟨.none, none, .fields #[], #[]⟩ ::
  ⟨(.type "tuple"), none, .seq #[(.str (Str.ofString "self") 304), (.str (Str.ofString "words") 305), (.str (Str.ofString "mask") 306), (.str (Str.ofString "found") 307), (.str (Str.ofString "i") 308), (.str (Str.ofString "node") 309), (.str (Str.ofString "pair") 310), (.str (Str.ofString "left") 311)] 0, #[]⟩ ::
  ⟨(.type "tuple"), none, .seq #[] 0, #[]⟩ ::
  ⟨.none, none, .func { name := (Str.ofString "value"), qualname := (Str.ofString "Aig.value"), params := prm (mtAt 2 11), body := .stmts (bod (mtAt 2 11)), scope := scp (mtAt 2 11), globals := 0, closure := [], defaults := .none, kwdefaults := .none, doc := .none, pyModule := .none, annotations := none, code := .none, closureTuple := .none, builtins := 0 }, #[]⟩ ::
  ⟨(.type "code"), none, .fields #[(.str (Str.ofString "value") 301), (.str (Str.ofString "Aig.value") 302), (.str (Str.ofString "/claim/cut.py") 303), (.int 63 0), (.int 3 0), (.int 0 0), (.int 0 0), (.int 3 0), (.ref 107), (.bool true), (.int 181 0), (.ref 108), .none, (.ref 109), (.ref 110), (.ref 111), (.int 312 0), (.int 63 0), (.str (Str.ofString "/claim/cut.py") 313)], #[]⟩ ::
  ⟨(.type "function"), none, .func (fnOf (Str.ofString "value") (Str.ofString "Aig.value") (prm (mtAt 2 11)) (bod (mtAt 2 11)) (scp (mtAt 2 11)) (.ref 106) .none .none (.str (Str.ofString "gateloom.aig") 194) none (.ref 112) .none), #[]⟩ ::
  ⟨(.type "tuple"), none, .seq #[(.str (Str.ofString "inputs") 315), (.str (Str.ofString "nodes") 316), (.str (Str.ofString "outputs") 317), (.str (Str.ofString "table") 318)] 0, #[]⟩ ::
  ⟨(.type "dict"), none, .dict #[ent P "__module__" 203 (.str (Str.ofString "gateloom.aig") 194), ent P "__firstlineno__" 207 (.int 5 206), ent P "__init__" 214 (.ref 35), ent P "add_input" 222 (.ref 42), ent P "add_output" 230 (.ref 49), ent P "is_and" 238 (.ref 56), ent P "land" 248 (.ref 63), ent P "lor" 257 (.ref 70), ent P "lxor" 266 (.ref 77), ent P "lmux" 276 (.ref 84), ent P "levels" 285 (.ref 91), ent P "users" 292 (.ref 98), ent P "uses" 299 (.ref 105), ent P "value" 314 (.ref 113), ent P "__static_attributes__" 319 (.ref 114), ent P "__dict__" 321 (.ref 117), ent P "__weakref__" 323 (.ref 118), ent P "__doc__" 324 .none] 4, #[]⟩ ::
  ⟨(.type "type"), none, .cls { name := (Str.ofString "Aig"), bases := [(.type "object")], mro := [(.ref 116), (.type "object")], ns := 115, qualname := (Str.ofString "Aig"), hasDict := true, slotNames := [], subclasses := [], abstract := false, collection := none, hasDel := false }, #[none, none, some (.str (Str.ofString "Aig") 196), some (.str (Str.ofString "Aig") 204), some (.builtin "object.__new__"), some (.bool true)]⟩ ::
  ⟨(.type "getset_descriptor"), none, .fields #[(.str (Str.ofString "__dict__") 320), (.ref 116), (.builtin "function.__dict__"), (.builtin "function.__dict__#set")], #[]⟩ ::
  ⟨(.type "getset_descriptor"), none, .fields #[(.str (Str.ofString "__weakref__") 322), (.ref 116), (.builtin "ExceptionGroup.__weakref__"), .none], #[]⟩ ::
  ⟨(.type "super"), none, .fields #[(.ref 116), (.ref 116), (.ref 116)], #[]⟩ ::
  ⟨(.type "builtin_function_or_method"), none, .fields #[(.builtin "object.__init_subclass__"), (.ref 116)], #[]⟩ ::
  ⟨(.type "tuple"), none, .seq #[] 0, #[]⟩ ::
  ⟨.none, none, .fields #[], #[]⟩ ::
  ⟨(.type "tuple"), none, .seq #[(.str (Str.ofString "words") 330), (.str (Str.ofString "literal") 331), (.str (Str.ofString "mask") 332)] 0, #[]⟩ ::
  ⟨(.type "tuple"), none, .seq #[] 0, #[]⟩ ::
  ⟨.none, none, .func { name := (Str.ofString "literal_word"), qualname := (Str.ofString "literal_word"), params := prm (stAt 3), body := .stmts (bod (stAt 3)), scope := scp (stAt 3), globals := 0, closure := [], defaults := .none, kwdefaults := .none, doc := .none, pyModule := .none, annotations := none, code := .none, closureTuple := .none, builtins := 0 }, #[]⟩ ::
  ⟨(.type "code"), none, .fields #[(.str (Str.ofString "literal_word") 327), (.str (Str.ofString "literal_word") 328), (.str (Str.ofString "/claim/cut.py") 329), (.int 73 0), (.int 3 0), (.int 0 0), (.int 0 0), (.int 3 0), (.ref 121), (.bool true), (.int 181 0), (.ref 122), .none, (.ref 123), (.ref 124), (.ref 125), (.int 333 0), (.int 73 0), (.str (Str.ofString "/claim/cut.py") 334)], #[]⟩ ::
  ⟨(.type "function"), none, .func (fnOf (Str.ofString "literal_word") (Str.ofString "literal_word") (prm (stAt 3)) (bod (stAt 3)) (scp (stAt 3)) .none .none .none (.str (Str.ofString "gateloom.aig") 194) none (.ref 126) .none), #[]⟩ ::
  ⟨(.type "tuple"), none, .seq #[] 0, #[]⟩ ::
  ⟨.none, none, .fields #[], #[]⟩ ::
  ⟨(.type "tuple"), none, .seq #[(.str (Str.ofString "literal") 341), (.str (Str.ofString "number") 342)] 0, #[]⟩ ::
  ⟨(.type "tuple"), none, .seq #[] 0, #[]⟩ ::
  ⟨.none, none, .func { name := (Str.ofString "variable_of"), qualname := (Str.ofString "variable_of"), params := prm (stAt 5), body := .stmts (bod (stAt 5)), scope := scp (stAt 5), globals := 0, closure := [], defaults := .none, kwdefaults := .none, doc := .none, pyModule := .none, annotations := none, code := .none, closureTuple := .none, builtins := 0 }, #[]⟩ ::
  ⟨(.type "code"), none, .fields #[(.str (Str.ofString "variable_of") 338), (.str (Str.ofString "variable_of") 339), (.str (Str.ofString "/claim/cut.py") 340), (.int 78 0), (.int 1 0), (.int 0 0), (.int 0 0), (.int 3 0), (.ref 128), (.bool true), (.int 181 0), (.ref 129), .none, (.ref 130), (.ref 131), (.ref 132), (.int 343 0), (.int 78 0), (.str (Str.ofString "/claim/cut.py") 344)], #[]⟩ ::
  ⟨(.type "function"), none, .func (fnOf (Str.ofString "variable_of") (Str.ofString "variable_of") (prm (stAt 5)) (bod (stAt 5)) (scp (stAt 5)) .none .none .none (.str (Str.ofString "gateloom.cnf") 336) none (.ref 133) .none), #[]⟩ ::
  ⟨(.type "tuple"), none, .seq #[] 0, #[]⟩ ::
  ⟨.none, none, .fields #[], #[]⟩ ::
  ⟨.none, none, .func { name := (Str.ofString "cone_nodes"), qualname := (Str.ofString "cone_nodes"), params := prm (stAt 6), body := .stmts (bod (stAt 6)), scope := scp (stAt 6), globals := 0, closure := [], defaults := .none, kwdefaults := .none, doc := .none, pyModule := .none, annotations := none, code := .none, closureTuple := .none, builtins := 0 }, #[]⟩ ::
  ⟨(.type "code"), none, .fields #[(.str (Str.ofString "cone_nodes") 346), (.str (Str.ofString "cone_nodes") 347), (.str (Str.ofString "/claim/cut.py") 348), (.int 83 0), (.int 2 0), (.int 0 0), (.int 0 0), (.int 3 0), (.ref 135), (.bool true), (.int 181 0), (.ref 136), .none, .none, .none, (.ref 137), (.int 349 0), (.int 83 0), (.str (Str.ofString "/claim/cut.py") 350)], #[]⟩ ::
  ⟨(.type "function"), none, .func (fnOf (Str.ofString "cone_nodes") (Str.ofString "cone_nodes") (prm (stAt 6)) (bod (stAt 6)) (scp (stAt 6)) .none .none .none (.str (Str.ofString "gateloom.cnf") 336) none (.ref 138) .none), #[]⟩ ::
  ⟨(.type "tuple"), none, .seq #[] 0, #[]⟩ ::
  ⟨.none, none, .fields #[], #[]⟩ ::
  ⟨(.type "tuple"), none, .seq #[(.str (Str.ofString "aig") 356), (.str (Str.ofString "literals") 357), (.str (Str.ofString "clauses") 358), (.str (Str.ofString "variables") 359), (.str (Str.ofString "node") 360), (.str (Str.ofString "out") 361), (.str (Str.ofString "left") 362), (.str (Str.ofString "right") 363)] 0, #[]⟩ ::
  ⟨(.type "tuple"), none, .seq #[] 0, #[]⟩ ::
  ⟨.none, none, .func { name := (Str.ofString "aig_cnf"), qualname := (Str.ofString "aig_cnf"), params := prm (stAt 8), body := .stmts (bod (stAt 8)), scope := scp (stAt 8), globals := 0, closure := [], defaults := .none, kwdefaults := .none, doc := .none, pyModule := .none, annotations := none, code := .none, closureTuple := .none, builtins := 0 }, #[]⟩ ::
  ⟨(.type "code"), none, .fields #[(.str (Str.ofString "aig_cnf") 353), (.str (Str.ofString "aig_cnf") 354), (.str (Str.ofString "/claim/cut.py") 355), (.int 94 0), (.int 2 0), (.int 0 0), (.int 0 0), (.int 3 0), (.ref 140), (.bool true), (.int 181 0), (.ref 141), .none, (.ref 142), (.ref 143), (.ref 144), (.int 364 0), (.int 94 0), (.str (Str.ofString "/claim/cut.py") 365)], #[]⟩ ::
  ⟨(.type "function"), none, .func (fnOf (Str.ofString "aig_cnf") (Str.ofString "aig_cnf") (prm (stAt 8)) (bod (stAt 8)) (scp (stAt 8)) .none .none .none (.str (Str.ofString "gateloom.cnf") 336) none (.ref 145) .none), #[]⟩ ::
  ⟨(.type "tuple"), none, .seq #[] 0, #[]⟩ ::
  ⟨.none, none, .fields #[], #[]⟩ ::
  ⟨(.type "tuple"), none, .seq #[(.str (Str.ofString "place") 382), (.str (Str.ofString "rest") 383), (.str (Str.ofString "bits") 384)] 0, #[]⟩ ::
  ⟨(.type "tuple"), none, .seq #[] 0, #[]⟩ ::
  ⟨.none, none, .func { name := (Str.ofString "luby"), qualname := (Str.ofString "luby"), params := prm (stAt 13), body := .stmts (bod (stAt 13)), scope := scp (stAt 13), globals := 0, closure := [], defaults := .none, kwdefaults := .none, doc := .none, pyModule := .none, annotations := none, code := .none, closureTuple := .none, builtins := 0 }, #[]⟩ ::
  ⟨(.type "code"), none, .fields #[(.str (Str.ofString "luby") 379), (.str (Str.ofString "luby") 380), (.str (Str.ofString "/claim/cut.py") 381), (.int 113 0), (.int 1 0), (.int 0 0), (.int 0 0), (.int 3 0), (.ref 147), (.bool true), (.int 181 0), (.ref 148), .none, (.ref 149), (.ref 150), (.ref 151), (.int 385 0), (.int 113 0), (.str (Str.ofString "/claim/cut.py") 386)], #[]⟩ ::
  ⟨(.type "function"), none, .func (fnOf (Str.ofString "luby") (Str.ofString "luby") (prm (stAt 13)) (bod (stAt 13)) (scp (stAt 13)) .none .none .none (.str (Str.ofString "gateloom.solver") 367) none (.ref 152) .none), #[]⟩ ::
  ⟨(.type "tuple"), none, .seq #[] 0, #[]⟩ ::
  ⟨.none, none, .fields #[], #[]⟩ ::
  ⟨(.type "tuple"), none, .seq #[(.str (Str.ofString "literal") 391)] 0, #[]⟩ ::
  ⟨(.type "tuple"), none, .seq #[] 0, #[]⟩ ::
  ⟨.none, none, .func { name := (Str.ofString "slot"), qualname := (Str.ofString "slot"), params := prm (stAt 14), body := .stmts (bod (stAt 14)), scope := scp (stAt 14), globals := 0, closure := [], defaults := .none, kwdefaults := .none, doc := .none, pyModule := .none, annotations := none, code := .none, closureTuple := .none, builtins := 0 }, #[]⟩ ::
  ⟨(.type "code"), none, .fields #[(.str (Str.ofString "slot") 388), (.str (Str.ofString "slot") 389), (.str (Str.ofString "/claim/cut.py") 390), (.int 120 0), (.int 1 0), (.int 0 0), (.int 0 0), (.int 3 0), (.ref 154), (.bool true), (.int 181 0), (.ref 155), .none, (.ref 156), (.ref 157), (.ref 158), (.int 392 0), (.int 120 0), (.str (Str.ofString "/claim/cut.py") 393)], #[]⟩ ::
  ⟨(.type "function"), none, .func (fnOf (Str.ofString "slot") (Str.ofString "slot") (prm (stAt 14)) (bod (stAt 14)) (scp (stAt 14)) .none .none .none (.str (Str.ofString "gateloom.solver") 367) none (.ref 159) .none), #[]⟩ ::
  ⟨(.type "tuple"), none, .seq #[] 0, #[]⟩ ::
  ⟨.none, none, .fields #[], #[]⟩ ::
  ⟨(.type "tuple"), none, .seq #[(.str (Str.ofString "clause") 398), (.str (Str.ofString "kept") 399), (.str (Str.ofString "literal") 400)] 0, #[]⟩ ::
  ⟨(.type "tuple"), none, .seq #[] 0, #[]⟩ ::
  ⟨.none, none, .func { name := (Str.ofString "plain_clause"), qualname := (Str.ofString "plain_clause"), params := prm (stAt 15), body := .stmts (bod (stAt 15)), scope := scp (stAt 15), globals := 0, closure := [], defaults := .none, kwdefaults := .none, doc := .none, pyModule := .none, annotations := none, code := .none, closureTuple := .none, builtins := 0 }, #[]⟩ ::
  ⟨(.type "code"), none, .fields #[(.str (Str.ofString "plain_clause") 395), (.str (Str.ofString "plain_clause") 396), (.str (Str.ofString "/claim/cut.py") 397), (.int 124 0), (.int 1 0), (.int 0 0), (.int 0 0), (.int 3 0), (.ref 161), (.bool true), (.int 181 0), (.ref 162), .none, (.ref 163), (.ref 164), (.ref 165), (.int 401 0), (.int 124 0), (.str (Str.ofString "/claim/cut.py") 402)], #[]⟩ ::
  ⟨(.type "function"), none, .func (fnOf (Str.ofString "plain_clause") (Str.ofString "plain_clause") (prm (stAt 15)) (bod (stAt 15)) (scp (stAt 15)) .none .none .none (.str (Str.ofString "gateloom.solver") 367) none (.ref 166) .none), #[]⟩ ::
  tl
noncomputable def c16 (P : Params) (tl : List Obj) : List Obj :=
  ⟨(.type "tuple"), none, .seq #[] 0, #[]⟩ ::
  ⟨(.type "builtin_function_or_method"), none, .fields #[(.builtin "type.__prepare__"), (.type "type")], #[]⟩ ::
  ⟨(.type "dict"), none, .dict #[ent P "__module__" 411 (.str (Str.ofString "gateloom.solver") 367), ent P "__qualname__" 413 (.str (Str.ofString "Solver") 412), ent P "__firstlineno__" 415 (.int 132 414), ent P "__init__" 421 (.ref 179), ent P "value" 429 (.ref 186), ent P "level" 436 (.ref 193), ent P "add" 447 (.ref 200), ent P "attach" 456 (.ref 207), ent P "learn" 464 (.ref 214), ent P "refute" 471 (.ref 221), ent P "assign" 481 (.ref 228), ent P "decide" 489 (.ref 235), ent P "cancel" 499 (.ref 242), ent P "propagate" 511 (.ref 249), ent P "still_watched" 522 (.ref 256), ent P "forces" 531 (.ref 263), ent P "bump" 540 (.ref 270), ent P "analyze" 556 (.ref 277), ent P "ordered" 567 (.ref 284), ent P "free_variable" 576 (.ref 291), ent P "assume" 585 (.ref 298), ent P "solve" 592 (.ref 305), ent P "leave" 600 (.ref 312), ent P "model" 607 (.ref 319), ent P "__static_attributes__" 623 (.ref 320)] 25, #[]⟩ ::
  ⟨(.type "tuple"), none, .seq #[] 0, #[]⟩ ::
  ⟨.none, none, .fields #[(.int 134 0), (.int 4 0), (.ref 178), (.int 151 0), (.int 4 0), (.ref 185), (.int 156 0), (.int 4 0), (.ref 192), (.int 159 0), (.int 4 0), (.ref 199), (.int 176 0), (.int 4 0), (.ref 206), (.int 183 0), (.int 4 0), (.ref 213), (.int 190 0), (.int 4 0), (.ref 220), (.int 194 0), (.int 4 0), (.ref 227), (.int 201 0), (.int 4 0), (.ref 234), (.int 205 0), (.int 4 0), (.ref 241), (.int 216 0), (.int 4 0), (.ref 248), (.int 233 0), (.int 4 0), (.ref 255), (.int 248 0), (.int 4 0), (.ref 262), (.int 254 0), (.int 4 0), (.ref 269), (.int 261 0), (.int 4 0), (.ref 276), (.int 287 0), (.int 4 0), (.ref 283), (.int 297 0), (.int 4 0), (.ref 290), (.int 304 0), (.int 4 0), (.ref 297), (.int 312 0), (.int 4 0), (.ref 304), (.int 347 0), (.int 4 0), (.ref 311), (.int 351 0), (.int 4 0), (.ref 318)], #[]⟩ ::
  ⟨(.type "code"), none, .fields #[(.str (Str.ofString "Solver") 406), (.str (Str.ofString "Solver") 407), (.str (Str.ofString "/claim/cut.py") 408), (.int 132 0), (.int 0 0), (.int 0 0), (.int 0 0), (.int 0 0), (.ref 171), (.bool false), (.int 181 0), (.ref 172), .none, .none, .none, .none, (.int 409 0), (.int 132 0), (.str (Str.ofString "/claim/cut.py") 410)], #[]⟩ ::
  ⟨(.type "frame"), none, .plain, #[some (.ref 173), some (.ref 3), some (.ref 170), none, some (.str (Str.ofString "gateloom.solver") 367), none, some (.ref 0)]⟩ ::
  ⟨(.type "tuple"), none, .seq #[] 0, #[]⟩ ::
  ⟨.none, none, .fields #[], #[]⟩ ::
  ⟨.none, none, .func { name := (Str.ofString "__init__"), qualname := (Str.ofString "Solver.__init__"), params := prm (mtAt 16 0), body := .stmts (bod (mtAt 16 0)), scope := scp (mtAt 16 0), globals := 0, closure := [], defaults := .none, kwdefaults := .none, doc := .none, pyModule := .none, annotations := none, code := .none, closureTuple := .none, builtins := 0 }, #[]⟩ ::
  ⟨(.type "code"), none, .fields #[(.str (Str.ofString "__init__") 416), (.str (Str.ofString "Solver.__init__") 417), (.str (Str.ofString "/claim/cut.py") 418), (.int 134 0), (.int 2 0), (.int 0 0), (.int 0 0), (.int 3 0), (.ref 175), (.bool true), (.int 181 0), (.ref 176), .none, .none, .none, (.ref 177), (.int 419 0), (.int 134 0), (.str (Str.ofString "/claim/cut.py") 420)], #[]⟩ ::
  ⟨(.type "function"), none, .func (fnOf (Str.ofString "__init__") (Str.ofString "Solver.__init__") (prm (mtAt 16 0)) (bod (mtAt 16 0)) (scp (mtAt 16 0)) .none .none .none (.str (Str.ofString "gateloom.solver") 367) none (.ref 178) .none), #[]⟩ ::
  ⟨(.type "tuple"), none, .seq #[] 0, #[]⟩ ::
  ⟨.none, none, .fields #[], #[]⟩ ::
  ⟨(.type "tuple"), none, .seq #[(.str (Str.ofString "self") 425), (.str (Str.ofString "literal") 426)] 0, #[]⟩ ::
  ⟨(.type "tuple"), none, .seq #[] 0, #[]⟩ ::
  ⟨.none, none, .func { name := (Str.ofString "value"), qualname := (Str.ofString "Solver.value"), params := prm (mtAt 16 1), body := .stmts (bod (mtAt 16 1)), scope := scp (mtAt 16 1), globals := 0, closure := [], defaults := .none, kwdefaults := .none, doc := .none, pyModule := .none, annotations := none, code := .none, closureTuple := .none, builtins := 0 }, #[]⟩ ::
  ⟨(.type "code"), none, .fields #[(.str (Str.ofString "value") 422), (.str (Str.ofString "Solver.value") 423), (.str (Str.ofString "/claim/cut.py") 424), (.int 151 0), (.int 2 0), (.int 0 0), (.int 0 0), (.int 3 0), (.ref 180), (.bool true), (.int 181 0), (.ref 181), .none, (.ref 182), (.ref 183), (.ref 184), (.int 427 0), (.int 151 0), (.str (Str.ofString "/claim/cut.py") 428)], #[]⟩ ::
  ⟨(.type "function"), none, .func (fnOf (Str.ofString "value") (Str.ofString "Solver.value") (prm (mtAt 16 1)) (bod (mtAt 16 1)) (scp (mtAt 16 1)) .none .none .none (.str (Str.ofString "gateloom.solver") 367) none (.ref 185) .none), #[]⟩ ::
  ⟨(.type "tuple"), none, .seq #[] 0, #[]⟩ ::
  ⟨.none, none, .fields #[], #[]⟩ ::
  ⟨(.type "tuple"), none, .seq #[(.str (Str.ofString "self") 433)] 0, #[]⟩ ::
  ⟨(.type "tuple"), none, .seq #[] 0, #[]⟩ ::
  ⟨.none, none, .func { name := (Str.ofString "level"), qualname := (Str.ofString "Solver.level"), params := prm (mtAt 16 2), body := .stmts (bod (mtAt 16 2)), scope := scp (mtAt 16 2), globals := 0, closure := [], defaults := .none, kwdefaults := .none, doc := .none, pyModule := .none, annotations := none, code := .none, closureTuple := .none, builtins := 0 }, #[]⟩ ::
  ⟨(.type "code"), none, .fields #[(.str (Str.ofString "level") 430), (.str (Str.ofString "Solver.level") 431), (.str (Str.ofString "/claim/cut.py") 432), (.int 156 0), (.int 1 0), (.int 0 0), (.int 0 0), (.int 3 0), (.ref 187), (.bool true), (.int 181 0), (.ref 188), .none, (.ref 189), (.ref 190), (.ref 191), (.int 434 0), (.int 156 0), (.str (Str.ofString "/claim/cut.py") 435)], #[]⟩ ::
  ⟨(.type "function"), none, .func (fnOf (Str.ofString "level") (Str.ofString "Solver.level") (prm (mtAt 16 2)) (bod (mtAt 16 2)) (scp (mtAt 16 2)) .none .none .none (.str (Str.ofString "gateloom.solver") 367) none (.ref 192) .none), #[]⟩ ::
  ⟨(.type "tuple"), none, .seq #[] 0, #[]⟩ ::
  ⟨.none, none, .fields #[], #[]⟩ ::
  ⟨(.type "tuple"), none, .seq #[(.str (Str.ofString "self") 440), (.str (Str.ofString "clause") 441), (.str (Str.ofString "literals") 442), (.str (Str.ofString "rest") 443), (.str (Str.ofString "literal") 444)] 0, #[]⟩ ::
  ⟨(.type "tuple"), none, .seq #[] 0, #[]⟩ ::
  ⟨.none, none, .func { name := (Str.ofString "add"), qualname := (Str.ofString "Solver.add"), params := prm (mtAt 16 3), body := .stmts (bod (mtAt 16 3)), scope := scp (mtAt 16 3), globals := 0, closure := [], defaults := .none, kwdefaults := .none, doc := .none, pyModule := .none, annotations := none, code := .none, closureTuple := .none, builtins := 0 }, #[]⟩ ::
  ⟨(.type "code"), none, .fields #[(.str (Str.ofString "add") 437), (.str (Str.ofString "Solver.add") 438), (.str (Str.ofString "/claim/cut.py") 439), (.int 159 0), (.int 2 0), (.int 0 0), (.int 0 0), (.int 3 0), (.ref 194), (.bool true), (.int 181 0), (.ref 195), .none, (.ref 196), (.ref 197), (.ref 198), (.int 445 0), (.int 159 0), (.str (Str.ofString "/claim/cut.py") 446)], #[]⟩ ::
  ⟨(.type "function"), none, .func (fnOf (Str.ofString "add") (Str.ofString "Solver.add") (prm (mtAt 16 3)) (bod (mtAt 16 3)) (scp (mtAt 16 3)) .none .none .none (.str (Str.ofString "gateloom.solver") 367) none (.ref 199) .none), #[]⟩ ::
  ⟨(.type "tuple"), none, .seq #[] 0, #[]⟩ ::
  ⟨.none, none, .fields #[], #[]⟩ ::
  ⟨(.type "tuple"), none, .seq #[(.str (Str.ofString "self") 451), (.str (Str.ofString "literals") 452), (.str (Str.ofString "number") 453)] 0, #[]⟩ ::
  ⟨(.type "tuple"), none, .seq #[] 0, #[]⟩ ::
  ⟨.none, none, .func { name := (Str.ofString "attach"), qualname := (Str.ofString "Solver.attach"), params := prm (mtAt 16 4), body := .stmts (bod (mtAt 16 4)), scope := scp (mtAt 16 4), globals := 0, closure := [], defaults := .none, kwdefaults := .none, doc := .none, pyModule := .none, annotations := none, code := .none, closureTuple := .none, builtins := 0 }, #[]⟩ ::
  ⟨(.type "code"), none, .fields #[(.str (Str.ofString "attach") 448), (.str (Str.ofString "Solver.attach") 449), (.str (Str.ofString "/claim/cut.py") 450), (.int 176 0), (.int 2 0), (.int 0 0), (.int 0 0), (.int 3 0), (.ref 201), (.bool true), (.int 181 0), (.ref 202), .none, (.ref 203), (.ref 204), (.ref 205), (.int 454 0), (.int 176 0), (.str (Str.ofString "/claim/cut.py") 455)], #[]⟩ ::
  ⟨(.type "function"), none, .func (fnOf (Str.ofString "attach") (Str.ofString "Solver.attach") (prm (mtAt 16 4)) (bod (mtAt 16 4)) (scp (mtAt 16 4)) .none .none .none (.str (Str.ofString "gateloom.solver") 367) none (.ref 206) .none), #[]⟩ ::
  ⟨(.type "tuple"), none, .seq #[] 0, #[]⟩ ::
  ⟨.none, none, .fields #[], #[]⟩ ::
  ⟨(.type "tuple"), none, .seq #[(.str (Str.ofString "self") 460), (.str (Str.ofString "literals") 461)] 0, #[]⟩ ::
  ⟨(.type "tuple"), none, .seq #[] 0, #[]⟩ ::
  ⟨.none, none, .func { name := (Str.ofString "learn"), qualname := (Str.ofString "Solver.learn"), params := prm (mtAt 16 5), body := .stmts (bod (mtAt 16 5)), scope := scp (mtAt 16 5), globals := 0, closure := [], defaults := .none, kwdefaults := .none, doc := .none, pyModule := .none, annotations := none, code := .none, closureTuple := .none, builtins := 0 }, #[]⟩ ::
  ⟨(.type "code"), none, .fields #[(.str (Str.ofString "learn") 457), (.str (Str.ofString "Solver.learn") 458), (.str (Str.ofString "/claim/cut.py") 459), (.int 183 0), (.int 2 0), (.int 0 0), (.int 0 0), (.int 3 0), (.ref 208), (.bool true), (.int 181 0), (.ref 209), .none, (.ref 210), (.ref 211), (.ref 212), (.int 462 0), (.int 183 0), (.str (Str.ofString "/claim/cut.py") 463)], #[]⟩ ::
  ⟨(.type "function"), none, .func (fnOf (Str.ofString "learn") (Str.ofString "Solver.learn") (prm (mtAt 16 5)) (bod (mtAt 16 5)) (scp (mtAt 16 5)) .none .none .none (.str (Str.ofString "gateloom.solver") 367) none (.ref 213) .none), #[]⟩ ::
  ⟨(.type "tuple"), none, .seq #[] 0, #[]⟩ ::
  ⟨.none, none, .fields #[], #[]⟩ ::
  ⟨(.type "tuple"), none, .seq #[(.str (Str.ofString "self") 468)] 0, #[]⟩ ::
  ⟨(.type "tuple"), none, .seq #[] 0, #[]⟩ ::
  ⟨.none, none, .func { name := (Str.ofString "refute"), qualname := (Str.ofString "Solver.refute"), params := prm (mtAt 16 6), body := .stmts (bod (mtAt 16 6)), scope := scp (mtAt 16 6), globals := 0, closure := [], defaults := .none, kwdefaults := .none, doc := .none, pyModule := .none, annotations := none, code := .none, closureTuple := .none, builtins := 0 }, #[]⟩ ::
  ⟨(.type "code"), none, .fields #[(.str (Str.ofString "refute") 465), (.str (Str.ofString "Solver.refute") 466), (.str (Str.ofString "/claim/cut.py") 467), (.int 190 0), (.int 1 0), (.int 0 0), (.int 0 0), (.int 3 0), (.ref 215), (.bool true), (.int 181 0), (.ref 216), .none, (.ref 217), (.ref 218), (.ref 219), (.int 469 0), (.int 190 0), (.str (Str.ofString "/claim/cut.py") 470)], #[]⟩ ::
  ⟨(.type "function"), none, .func (fnOf (Str.ofString "refute") (Str.ofString "Solver.refute") (prm (mtAt 16 6)) (bod (mtAt 16 6)) (scp (mtAt 16 6)) .none .none .none (.str (Str.ofString "gateloom.solver") 367) none (.ref 220) .none), #[]⟩ ::
  ⟨(.type "tuple"), none, .seq #[] 0, #[]⟩ ::
  ⟨.none, none, .fields #[], #[]⟩ ::
  ⟨(.type "tuple"), none, .seq #[(.str (Str.ofString "self") 475), (.str (Str.ofString "literal") 476), (.str (Str.ofString "reason") 477), (.str (Str.ofString "variable") 478)] 0, #[]⟩ ::
  ⟨(.type "tuple"), none, .seq #[] 0, #[]⟩ ::
  ⟨.none, none, .func { name := (Str.ofString "assign"), qualname := (Str.ofString "Solver.assign"), params := prm (mtAt 16 7), body := .stmts (bod (mtAt 16 7)), scope := scp (mtAt 16 7), globals := 0, closure := [], defaults := .none, kwdefaults := .none, doc := .none, pyModule := .none, annotations := none, code := .none, closureTuple := .none, builtins := 0 }, #[]⟩ ::
  ⟨(.type "code"), none, .fields #[(.str (Str.ofString "assign") 472), (.str (Str.ofString "Solver.assign") 473), (.str (Str.ofString "/claim/cut.py") 474), (.int 194 0), (.int 3 0), (.int 0 0), (.int 0 0), (.int 3 0), (.ref 222), (.bool true), (.int 181 0), (.ref 223), .none, (.ref 224), (.ref 225), (.ref 226), (.int 479 0), (.int 194 0), (.str (Str.ofString "/claim/cut.py") 480)], #[]⟩ ::
  ⟨(.type "function"), none, .func (fnOf (Str.ofString "assign") (Str.ofString "Solver.assign") (prm (mtAt 16 7)) (bod (mtAt 16 7)) (scp (mtAt 16 7)) .none .none .none (.str (Str.ofString "gateloom.solver") 367) none (.ref 227) .none), #[]⟩ ::
  ⟨(.type "tuple"), none, .seq #[] 0, #[]⟩ ::
  ⟨.none, none, .fields #[], #[]⟩ ::
  ⟨(.type "tuple"), none, .seq #[(.str (Str.ofString "self") 485), (.str (Str.ofString "literal") 486)] 0, #[]⟩ ::
  ⟨(.type "tuple"), none, .seq #[] 0, #[]⟩ ::
  ⟨.none, none, .func { name := (Str.ofString "decide"), qualname := (Str.ofString "Solver.decide"), params := prm (mtAt 16 8), body := .stmts (bod (mtAt 16 8)), scope := scp (mtAt 16 8), globals := 0, closure := [], defaults := .none, kwdefaults := .none, doc := .none, pyModule := .none, annotations := none, code := .none, closureTuple := .none, builtins := 0 }, #[]⟩ ::
  ⟨(.type "code"), none, .fields #[(.str (Str.ofString "decide") 482), (.str (Str.ofString "Solver.decide") 483), (.str (Str.ofString "/claim/cut.py") 484), (.int 201 0), (.int 2 0), (.int 0 0), (.int 0 0), (.int 3 0), (.ref 229), (.bool true), (.int 181 0), (.ref 230), .none, (.ref 231), (.ref 232), (.ref 233), (.int 487 0), (.int 201 0), (.str (Str.ofString "/claim/cut.py") 488)], #[]⟩ ::
  ⟨(.type "function"), none, .func (fnOf (Str.ofString "decide") (Str.ofString "Solver.decide") (prm (mtAt 16 8)) (bod (mtAt 16 8)) (scp (mtAt 16 8)) .none .none .none (.str (Str.ofString "gateloom.solver") 367) none (.ref 234) .none), #[]⟩ ::
  ⟨(.type "tuple"), none, .seq #[] 0, #[]⟩ ::
  ⟨.none, none, .fields #[], #[]⟩ ::
  ⟨(.type "tuple"), none, .seq #[(.str (Str.ofString "self") 493), (.str (Str.ofString "level") 494), (.str (Str.ofString "length") 495), (.str (Str.ofString "variable") 496)] 0, #[]⟩ ::
  ⟨(.type "tuple"), none, .seq #[] 0, #[]⟩ ::
  ⟨.none, none, .func { name := (Str.ofString "cancel"), qualname := (Str.ofString "Solver.cancel"), params := prm (mtAt 16 9), body := .stmts (bod (mtAt 16 9)), scope := scp (mtAt 16 9), globals := 0, closure := [], defaults := .none, kwdefaults := .none, doc := .none, pyModule := .none, annotations := none, code := .none, closureTuple := .none, builtins := 0 }, #[]⟩ ::
  ⟨(.type "code"), none, .fields #[(.str (Str.ofString "cancel") 490), (.str (Str.ofString "Solver.cancel") 491), (.str (Str.ofString "/claim/cut.py") 492), (.int 205 0), (.int 2 0), (.int 0 0), (.int 0 0), (.int 3 0), (.ref 236), (.bool true), (.int 181 0), (.ref 237), .none, (.ref 238), (.ref 239), (.ref 240), (.int 497 0), (.int 205 0), (.str (Str.ofString "/claim/cut.py") 498)], #[]⟩ ::
  ⟨(.type "function"), none, .func (fnOf (Str.ofString "cancel") (Str.ofString "Solver.cancel") (prm (mtAt 16 9)) (bod (mtAt 16 9)) (scp (mtAt 16 9)) .none .none .none (.str (Str.ofString "gateloom.solver") 367) none (.ref 241) .none), #[]⟩ ::
  ⟨(.type "tuple"), none, .seq #[] 0, #[]⟩ ::
  ⟨.none, none, .fields #[], #[]⟩ ::
  ⟨(.type "tuple"), none, .seq #[(.str (Str.ofString "self") 503), (.str (Str.ofString "false") 504), (.str (Str.ofString "row") 505), (.str (Str.ofString "kept") 506), (.str (Str.ofString "conflict") 507), (.str (Str.ofString "number") 508)] 0, #[]⟩ ::
  ⟨(.type "tuple"), none, .seq #[] 0, #[]⟩ ::
  ⟨.none, none, .func { name := (Str.ofString "propagate"), qualname := (Str.ofString "Solver.propagate"), params := prm (mtAt 16 10), body := .stmts (bod (mtAt 16 10)), scope := scp (mtAt 16 10), globals := 0, closure := [], defaults := .none, kwdefaults := .none, doc := .none, pyModule := .none, annotations := none, code := .none, closureTuple := .none, builtins := 0 }, #[]⟩ ::
  ⟨(.type "code"), none, .fields #[(.str (Str.ofString "propagate") 500), (.str (Str.ofString "Solver.propagate") 501), (.str (Str.ofString "/claim/cut.py") 502), (.int 216 0), (.int 1 0), (.int 0 0), (.int 0 0), (.int 3 0), (.ref 243), (.bool true), (.int 181 0), (.ref 244), .none, (.ref 245), (.ref 246), (.ref 247), (.int 509 0), (.int 216 0), (.str (Str.ofString "/claim/cut.py") 510)], #[]⟩ ::
  ⟨(.type "function"), none, .func (fnOf (Str.ofString "propagate") (Str.ofString "Solver.propagate") (prm (mtAt 16 10)) (bod (mtAt 16 10)) (scp (mtAt 16 10)) .none .none .none (.str (Str.ofString "gateloom.solver") 367) none (.ref 248) .none), #[]⟩ ::
  ⟨(.type "tuple"), none, .seq #[] 0, #[]⟩ ::
  ⟨.none, none, .fields #[], #[]⟩ ::
  ⟨(.type "tuple"), none, .seq #[(.str (Str.ofString "self") 515), (.str (Str.ofString "number") 516), (.str (Str.ofString "false") 517), (.str (Str.ofString "clause") 518), (.str (Str.ofString "place") 519)] 0, #[]⟩ ::
  ⟨(.type "tuple"), none, .seq #[] 0, #[]⟩ ::
  ⟨.none, none, .func { name := (Str.ofString "still_watched"), qualname := (Str.ofString "Solver.still_watched"), params := prm (mtAt 16 11), body := .stmts (bod (mtAt 16 11)), scope := scp (mtAt 16 11), globals := 0, closure := [], defaults := .none, kwdefaults := .none, doc := .none, pyModule := .none, annotations := none, code := .none, closureTuple := .none, builtins := 0 }, #[]⟩ ::
  ⟨(.type "code"), none, .fields #[(.str (Str.ofString "still_watched") 512), (.str (Str.ofString "Solver.still_watched") 513), (.str (Str.ofString "/claim/cut.py") 514), (.int 233 0), (.int 3 0), (.int 0 0), (.int 0 0), (.int 3 0), (.ref 250), (.bool true), (.int 181 0), (.ref 251), .none, (.ref 252), (.ref 253), (.ref 254), (.int 520 0), (.int 233 0), (.str (Str.ofString "/claim/cut.py") 521)], #[]⟩ ::
  ⟨(.type "function"), none, .func (fnOf (Str.ofString "still_watched") (Str.ofString "Solver.still_watched") (prm (mtAt 16 11)) (bod (mtAt 16 11)) (scp (mtAt 16 11)) .none .none .none (.str (Str.ofString "gateloom.solver") 367) none (.ref 255) .none), #[]⟩ ::
  ⟨(.type "tuple"), none, .seq #[] 0, #[]⟩ ::
  ⟨.none, none, .fields #[], #[]⟩ ::
  ⟨(.type "tuple"), none, .seq #[(.str (Str.ofString "self") 526), (.str (Str.ofString "number") 527), (.str (Str.ofString "first") 528)] 0, #[]⟩ ::
  ⟨(.type "tuple"), none, .seq #[] 0, #[]⟩ ::
  ⟨.none, none, .func { name := (Str.ofString "forces"), qualname := (Str.ofString "Solver.forces"), params := prm (mtAt 16 12), body := .stmts (bod (mtAt 16 12)), scope := scp (mtAt 16 12), globals := 0, closure := [], defaults := .none, kwdefaults := .none, doc := .none, pyModule := .none, annotations := none, code := .none, closureTuple := .none, builtins := 0 }, #[]⟩ ::
  ⟨(.type "code"), none, .fields #[(.str (Str.ofString "forces") 523), (.str (Str.ofString "Solver.forces") 524), (.str (Str.ofString "/claim/cut.py") 525), (.int 248 0), (.int 2 0), (.int 0 0), (.int 0 0), (.int 3 0), (.ref 257), (.bool true), (.int 181 0), (.ref 258), .none, (.ref 259), (.ref 260), (.ref 261), (.int 529 0), (.int 248 0), (.str (Str.ofString "/claim/cut.py") 530)], #[]⟩ ::
  ⟨(.type "function"), none, .func (fnOf (Str.ofString "forces") (Str.ofString "Solver.forces") (prm (mtAt 16 12)) (bod (mtAt 16 12)) (scp (mtAt 16 12)) .none .none .none (.str (Str.ofString "gateloom.solver") 367) none (.ref 262) .none), #[]⟩ ::
  ⟨(.type "tuple"), none, .seq #[] 0, #[]⟩ ::
  ⟨.none, none, .fields #[], #[]⟩ ::
  ⟨(.type "tuple"), none, .seq #[(.str (Str.ofString "self") 535), (.str (Str.ofString "variable") 536), (.str (Str.ofString "other") 537)] 0, #[]⟩ ::
  ⟨(.type "tuple"), none, .seq #[] 0, #[]⟩ ::
  ⟨.none, none, .func { name := (Str.ofString "bump"), qualname := (Str.ofString "Solver.bump"), params := prm (mtAt 16 13), body := .stmts (bod (mtAt 16 13)), scope := scp (mtAt 16 13), globals := 0, closure := [], defaults := .none, kwdefaults := .none, doc := .none, pyModule := .none, annotations := none, code := .none, closureTuple := .none, builtins := 0 }, #[]⟩ ::
  ⟨(.type "code"), none, .fields #[(.str (Str.ofString "bump") 532), (.str (Str.ofString "Solver.bump") 533), (.str (Str.ofString "/claim/cut.py") 534), (.int 254 0), (.int 2 0), (.int 0 0), (.int 0 0), (.int 3 0), (.ref 264), (.bool true), (.int 181 0), (.ref 265), .none, (.ref 266), (.ref 267), (.ref 268), (.int 538 0), (.int 254 0), (.str (Str.ofString "/claim/cut.py") 539)], #[]⟩ ::
  ⟨(.type "function"), none, .func (fnOf (Str.ofString "bump") (Str.ofString "Solver.bump") (prm (mtAt 16 13)) (bod (mtAt 16 13)) (scp (mtAt 16 13)) .none .none .none (.str (Str.ofString "gateloom.solver") 367) none (.ref 269) .none), #[]⟩ ::
  ⟨(.type "tuple"), none, .seq #[] 0, #[]⟩ ::
  ⟨.none, none, .fields #[], #[]⟩ ::
  ⟨(.type "tuple"), none, .seq #[(.str (Str.ofString "self") 544), (.str (Str.ofString "conflict") 545), (.str (Str.ofString "seen") 546), (.str (Str.ofString "rest") 547), (.str (Str.ofString "open_count") 548), (.str (Str.ofString "place") 549), (.str (Str.ofString "number") 550), (.str (Str.ofString "skipped") 551), (.str (Str.ofString "literal") 552), (.str (Str.ofString "variable") 553)] 0, #[]⟩ ::
  ⟨(.type "tuple"), none, .seq #[] 0, #[]⟩ ::
  ⟨.none, none, .func { name := (Str.ofString "analyze"), qualname := (Str.ofString "Solver.analyze"), params := prm (mtAt 16 14), body := .stmts (bod (mtAt 16 14)), scope := scp (mtAt 16 14), globals := 0, closure := [], defaults := .none, kwdefaults := .none, doc := .none, pyModule := .none, annotations := none, code := .none, closureTuple := .none, builtins := 0 }, #[]⟩ ::
  ⟨(.type "code"), none, .fields #[(.str (Str.ofString "analyze") 541), (.str (Str.ofString "Solver.analyze") 542), (.str (Str.ofString "/claim/cut.py") 543), (.int 261 0), (.int 2 0), (.int 0 0), (.int 0 0), (.int 3 0), (.ref 271), (.bool true), (.int 181 0), (.ref 272), .none, (.ref 273), (.ref 274), (.ref 275), (.int 554 0), (.int 261 0), (.str (Str.ofString "/claim/cut.py") 555)], #[]⟩ ::
  ⟨(.type "function"), none, .func (fnOf (Str.ofString "analyze") (Str.ofString "Solver.analyze") (prm (mtAt 16 14)) (bod (mtAt 16 14)) (scp (mtAt 16 14)) .none .none .none (.str (Str.ofString "gateloom.solver") 367) none (.ref 276) .none), #[]⟩ ::
  ⟨(.type "tuple"), none, .seq #[] 0, #[]⟩ ::
  ⟨.none, none, .fields #[], #[]⟩ ::
  ⟨(.type "tuple"), none, .seq #[(.str (Str.ofString "self") 560), (.str (Str.ofString "first") 561), (.str (Str.ofString "rest") 562), (.str (Str.ofString "best") 563), (.str (Str.ofString "place") 564)] 0, #[]⟩ ::
  ⟨(.type "tuple"), none, .seq #[] 0, #[]⟩ ::
  ⟨.none, none, .func { name := (Str.ofString "ordered"), qualname := (Str.ofString "Solver.ordered"), params := prm (mtAt 16 15), body := .stmts (bod (mtAt 16 15)), scope := scp (mtAt 16 15), globals := 0, closure := [], defaults := .none, kwdefaults := .none, doc := .none, pyModule := .none, annotations := none, code := .none, closureTuple := .none, builtins := 0 }, #[]⟩ ::
  ⟨(.type "code"), none, .fields #[(.str (Str.ofString "ordered") 557), (.str (Str.ofString "Solver.ordered") 558), (.str (Str.ofString "/claim/cut.py") 559), (.int 287 0), (.int 3 0), (.int 0 0), (.int 0 0), (.int 3 0), (.ref 278), (.bool true), (.int 181 0), (.ref 279), .none, (.ref 280), (.ref 281), (.ref 282), (.int 565 0), (.int 287 0), (.str (Str.ofString "/claim/cut.py") 566)], #[]⟩ ::
  ⟨(.type "function"), none, .func (fnOf (Str.ofString "ordered") (Str.ofString "Solver.ordered") (prm (mtAt 16 15)) (bod (mtAt 16 15)) (scp (mtAt 16 15)) .none .none .none (.str (Str.ofString "gateloom.solver") 367) none (.ref 283) .none), #[]⟩ ::
  ⟨(.type "tuple"), none, .seq #[] 0, #[]⟩ ::
  ⟨.none, none, .fields #[], #[]⟩ ::
  ⟨(.type "tuple"), none, .seq #[(.str (Str.ofString "self") 571), (.str (Str.ofString "best") 572), (.str (Str.ofString "variable") 573)] 0, #[]⟩ ::
  ⟨(.type "tuple"), none, .seq #[] 0, #[]⟩ ::
  ⟨.none, none, .func { name := (Str.ofString "free_variable"), qualname := (Str.ofString "Solver.free_variable"), params := prm (mtAt 16 16), body := .stmts (bod (mtAt 16 16)), scope := scp (mtAt 16 16), globals := 0, closure := [], defaults := .none, kwdefaults := .none, doc := .none, pyModule := .none, annotations := none, code := .none, closureTuple := .none, builtins := 0 }, #[]⟩ ::
  ⟨(.type "code"), none, .fields #[(.str (Str.ofString "free_variable") 568), (.str (Str.ofString "Solver.free_variable") 569), (.str (Str.ofString "/claim/cut.py") 570), (.int 297 0), (.int 1 0), (.int 0 0), (.int 0 0), (.int 3 0), (.ref 285), (.bool true), (.int 181 0), (.ref 286), .none, (.ref 287), (.ref 288), (.ref 289), (.int 574 0), (.int 297 0), (.str (Str.ofString "/claim/cut.py") 575)], #[]⟩ ::
  ⟨(.type "function"), none, .func (fnOf (Str.ofString "free_variable") (Str.ofString "Solver.free_variable") (prm (mtAt 16 16)) (bod (mtAt 16 16)) (scp (mtAt 16 16)) .none .none .none (.str (Str.ofString "gateloom.solver") 367) none (.ref 290) .none), #[]⟩ ::
  ⟨(.type "tuple"), none, .seq #[] 0, #[]⟩ ::
  ⟨.none, none, .fields #[], #[]⟩ ::
  ⟨(.type "tuple"), none, .seq #[(.str (Str.ofString "self") 580), (.str (Str.ofString "assumptions") 581), (.str (Str.ofString "literal") 582)] 0, #[]⟩ ::
  ⟨(.type "tuple"), none, .seq #[] 0, #[]⟩ ::
  ⟨.none, none, .func { name := (Str.ofString "assume"), qualname := (Str.ofString "Solver.assume"), params := prm (mtAt 16 17), body := .stmts (bod (mtAt 16 17)), scope := scp (mtAt 16 17), globals := 0, closure := [], defaults := .none, kwdefaults := .none, doc := .none, pyModule := .none, annotations := none, code := .none, closureTuple := .none, builtins := 0 }, #[]⟩ ::
  ⟨(.type "code"), none, .fields #[(.str (Str.ofString "assume") 577), (.str (Str.ofString "Solver.assume") 578), (.str (Str.ofString "/claim/cut.py") 579), (.int 304 0), (.int 2 0), (.int 0 0), (.int 0 0), (.int 3 0), (.ref 292), (.bool true), (.int 181 0), (.ref 293), .none, (.ref 294), (.ref 295), (.ref 296), (.int 583 0), (.int 304 0), (.str (Str.ofString "/claim/cut.py") 584)], #[]⟩ ::
  ⟨(.type "function"), none, .func (fnOf (Str.ofString "assume") (Str.ofString "Solver.assume") (prm (mtAt 16 17)) (bod (mtAt 16 17)) (scp (mtAt 16 17)) .none .none .none (.str (Str.ofString "gateloom.solver") 367) none (.ref 297) .none), #[]⟩ ::
  ⟨(.type "tuple"), none, .seq #[] 0, #[]⟩ ::
  ⟨(.type "tuple"), none, .seq #[(.ref 299), (.int 100000 586)] 0, #[]⟩ ::
  ⟨(.type "tuple"), none, .seq #[] 0, #[]⟩ ::
  ⟨.none, none, .fields #[], #[]⟩ ::
  ⟨.none, none, .func { name := (Str.ofString "solve"), qualname := (Str.ofString "Solver.solve"), params := prm (mtAt 16 18), body := .stmts (bod (mtAt 16 18)), scope := scp (mtAt 16 18), globals := 0, closure := [], defaults := .none, kwdefaults := .none, doc := .none, pyModule := .none, annotations := none, code := .none, closureTuple := .none, builtins := 0 }, #[]⟩ ::
  ⟨(.type "code"), none, .fields #[(.str (Str.ofString "solve") 587), (.str (Str.ofString "Solver.solve") 588), (.str (Str.ofString "/claim/cut.py") 589), (.int 312 0), (.int 3 0), (.int 0 0), (.int 0 0), (.int 3 0), (.ref 301), (.bool true), (.int 181 0), (.ref 302), .none, .none, .none, (.ref 303), (.int 590 0), (.int 312 0), (.str (Str.ofString "/claim/cut.py") 591)], #[]⟩ ::
  ⟨(.type "function"), none, .func (fnOf (Str.ofString "solve") (Str.ofString "Solver.solve") (prm (mtAt 16 18)) (bod (mtAt 16 18)) (scp (mtAt 16 18)) (.ref 300) .none .none (.str (Str.ofString "gateloom.solver") 367) none (.ref 304) .none), #[]⟩ ::
  ⟨(.type "tuple"), none, .seq #[] 0, #[]⟩ ::
  ⟨.none, none, .fields #[], #[]⟩ ::
  ⟨(.type "tuple"), none, .seq #[(.str (Str.ofString "self") 596), (.str (Str.ofString "answer") 597)] 0, #[]⟩ ::
  ⟨(.type "tuple"), none, .seq #[] 0, #[]⟩ ::
  ⟨.none, none, .func { name := (Str.ofString "leave"), qualname := (Str.ofString "Solver.leave"), params := prm (mtAt 16 19), body := .stmts (bod (mtAt 16 19)), scope := scp (mtAt 16 19), globals := 0, closure := [], defaults := .none, kwdefaults := .none, doc := .none, pyModule := .none, annotations := none, code := .none, closureTuple := .none, builtins := 0 }, #[]⟩ ::
  ⟨(.type "code"), none, .fields #[(.str (Str.ofString "leave") 593), (.str (Str.ofString "Solver.leave") 594), (.str (Str.ofString "/claim/cut.py") 595), (.int 347 0), (.int 2 0), (.int 0 0), (.int 0 0), (.int 3 0), (.ref 306), (.bool true), (.int 181 0), (.ref 307), .none, (.ref 308), (.ref 309), (.ref 310), (.int 598 0), (.int 347 0), (.str (Str.ofString "/claim/cut.py") 599)], #[]⟩ ::
  ⟨(.type "function"), none, .func (fnOf (Str.ofString "leave") (Str.ofString "Solver.leave") (prm (mtAt 16 19)) (bod (mtAt 16 19)) (scp (mtAt 16 19)) .none .none .none (.str (Str.ofString "gateloom.solver") 367) none (.ref 311) .none), #[]⟩ ::
  ⟨(.type "tuple"), none, .seq #[] 0, #[]⟩ ::
  ⟨.none, none, .fields #[], #[]⟩ ::
  ⟨(.type "tuple"), none, .seq #[(.str (Str.ofString "self") 604)] 0, #[]⟩ ::
  ⟨(.type "tuple"), none, .seq #[] 0, #[]⟩ ::
  ⟨.none, none, .func { name := (Str.ofString "model"), qualname := (Str.ofString "Solver.model"), params := prm (mtAt 16 20), body := .stmts (bod (mtAt 16 20)), scope := scp (mtAt 16 20), globals := 0, closure := [], defaults := .none, kwdefaults := .none, doc := .none, pyModule := .none, annotations := none, code := .none, closureTuple := .none, builtins := 0 }, #[]⟩ ::
  ⟨(.type "code"), none, .fields #[(.str (Str.ofString "model") 601), (.str (Str.ofString "Solver.model") 602), (.str (Str.ofString "/claim/cut.py") 603), (.int 351 0), (.int 1 0), (.int 0 0), (.int 0 0), (.int 3 0), (.ref 313), (.bool true), (.int 181 0), (.ref 314), .none, (.ref 315), (.ref 316), (.ref 317), (.int 605 0), (.int 351 0), (.str (Str.ofString "/claim/cut.py") 606)], #[]⟩ ::
  ⟨(.type "function"), none, .func (fnOf (Str.ofString "model") (Str.ofString "Solver.model") (prm (mtAt 16 20)) (bod (mtAt 16 20)) (scp (mtAt 16 20)) .none .none .none (.str (Str.ofString "gateloom.solver") 367) none (.ref 318) .none), #[]⟩ ::
  ⟨(.type "tuple"), none, .seq #[(.str (Str.ofString "activity") 608), (.str (Str.ofString "clauses") 609), (.str (Str.ofString "count") 610), (.str (Str.ofString "found") 611), (.str (Str.ofString "head") 612), (.str (Str.ofString "learned") 613), (.str (Str.ofString "levels") 614), (.str (Str.ofString "limits") 615), (.str (Str.ofString "phases") 616), (.str (Str.ofString "reasons") 617), (.str (Str.ofString "refuted") 618), (.str (Str.ofString "step") 619), (.str (Str.ofString "trail") 620), (.str (Str.ofString "values") 621), (.str (Str.ofString "watches") 622)] 0, #[]⟩ ::
  ⟨(.type "dict"), none, .dict #[ent P "__module__" 411 (.str (Str.ofString "gateloom.solver") 367), ent P "__firstlineno__" 415 (.int 132 414), ent P "__init__" 421 (.ref 179), ent P "value" 429 (.ref 186), ent P "level" 436 (.ref 193), ent P "add" 447 (.ref 200), ent P "attach" 456 (.ref 207), ent P "learn" 464 (.ref 214), ent P "refute" 471 (.ref 221), ent P "assign" 481 (.ref 228), ent P "decide" 489 (.ref 235), ent P "cancel" 499 (.ref 242), ent P "propagate" 511 (.ref 249), ent P "still_watched" 522 (.ref 256), ent P "forces" 531 (.ref 263), ent P "bump" 540 (.ref 270), ent P "analyze" 556 (.ref 277), ent P "ordered" 567 (.ref 284), ent P "free_variable" 576 (.ref 291), ent P "assume" 585 (.ref 298), ent P "solve" 592 (.ref 305), ent P "leave" 600 (.ref 312), ent P "model" 607 (.ref 319), ent P "__static_attributes__" 623 (.ref 320), ent P "__dict__" 625 (.ref 323), ent P "__weakref__" 627 (.ref 324), ent P "__doc__" 628 .none] 4, #[]⟩ ::
  ⟨(.type "type"), none, .cls { name := (Str.ofString "Solver"), bases := [(.type "object")], mro := [(.ref 322), (.type "object")], ns := 321, qualname := (Str.ofString "Solver"), hasDict := true, slotNames := [], subclasses := [], abstract := false, collection := none, hasDel := false }, #[none, none, some (.str (Str.ofString "Solver") 404), some (.str (Str.ofString "Solver") 412), some (.builtin "object.__new__"), some (.bool true)]⟩ ::
  ⟨(.type "getset_descriptor"), none, .fields #[(.str (Str.ofString "__dict__") 624), (.ref 322), (.builtin "function.__dict__"), (.builtin "function.__dict__#set")], #[]⟩ ::
  ⟨(.type "getset_descriptor"), none, .fields #[(.str (Str.ofString "__weakref__") 626), (.ref 322), (.builtin "ExceptionGroup.__weakref__"), .none], #[]⟩ ::
  ⟨(.type "super"), none, .fields #[(.ref 322), (.ref 322), (.ref 322)], #[]⟩ ::
  ⟨(.type "builtin_function_or_method"), none, .fields #[(.builtin "object.__init_subclass__"), (.ref 322)], #[]⟩ ::
  tl
noncomputable def c30 (P : Params) (tl : List Obj) : List Obj :=
  ⟨(.type "tuple"), none, .seq #[] 0, #[]⟩ ::
  ⟨.none, none, .fields #[], #[]⟩ ::
  ⟨(.type "tuple"), none, .seq #[(.str (Str.ofString "k") 636)] 0, #[]⟩ ::
  ⟨(.type "tuple"), none, .seq #[] 0, #[]⟩ ::
  ⟨.none, none, .func { name := (Str.ofString "full_table"), qualname := (Str.ofString "full_table"), params := prm (stAt 18), body := .stmts (bod (stAt 18)), scope := scp (stAt 18), globals := 0, closure := [], defaults := .none, kwdefaults := .none, doc := .none, pyModule := .none, annotations := none, code := .none, closureTuple := .none, builtins := 0 }, #[]⟩ ::
  ⟨(.type "code"), none, .fields #[(.str (Str.ofString "full_table") 633), (.str (Str.ofString "full_table") 634), (.str (Str.ofString "/claim/cut.py") 635), (.int 354 0), (.int 1 0), (.int 0 0), (.int 0 0), (.int 3 0), (.ref 327), (.bool true), (.int 181 0), (.ref 328), .none, (.ref 329), (.ref 330), (.ref 331), (.int 637 0), (.int 354 0), (.str (Str.ofString "/claim/cut.py") 638)], #[]⟩ ::
  ⟨(.type "function"), none, .func (fnOf (Str.ofString "full_table") (Str.ofString "full_table") (prm (stAt 18)) (bod (stAt 18)) (scp (stAt 18)) .none .none .none (.str (Str.ofString "gateloom.truth") 631) none (.ref 332) .none), #[]⟩ ::
  ⟨(.type "tuple"), none, .seq #[] 0, #[]⟩ ::
  ⟨.none, none, .fields #[], #[]⟩ ::
  ⟨(.type "tuple"), none, .seq #[(.str (Str.ofString "i") 643), (.str (Str.ofString "k") 644), (.str (Str.ofString "full") 645)] 0, #[]⟩ ::
  ⟨(.type "tuple"), none, .seq #[] 0, #[]⟩ ::
  ⟨.none, none, .func { name := (Str.ofString "var_table"), qualname := (Str.ofString "var_table"), params := prm (stAt 19), body := .stmts (bod (stAt 19)), scope := scp (stAt 19), globals := 0, closure := [], defaults := .none, kwdefaults := .none, doc := .none, pyModule := .none, annotations := none, code := .none, closureTuple := .none, builtins := 0 }, #[]⟩ ::
  ⟨(.type "code"), none, .fields #[(.str (Str.ofString "var_table") 640), (.str (Str.ofString "var_table") 641), (.str (Str.ofString "/claim/cut.py") 642), (.int 356 0), (.int 2 0), (.int 0 0), (.int 0 0), (.int 3 0), (.ref 334), (.bool true), (.int 181 0), (.ref 335), .none, (.ref 336), (.ref 337), (.ref 338), (.int 646 0), (.int 356 0), (.str (Str.ofString "/claim/cut.py") 647)], #[]⟩ ::
  ⟨(.type "function"), none, .func (fnOf (Str.ofString "var_table") (Str.ofString "var_table") (prm (stAt 19)) (bod (stAt 19)) (scp (stAt 19)) .none .none .none (.str (Str.ofString "gateloom.truth") 631) none (.ref 339) .none), #[]⟩ ::
  ⟨(.type "tuple"), none, .seq #[] 0, #[]⟩ ::
  ⟨.none, none, .fields #[], #[]⟩ ::
  ⟨(.type "tuple"), none, .seq #[(.str (Str.ofString "n") 652), (.str (Str.ofString "place") 653)] 0, #[]⟩ ::
  ⟨(.type "tuple"), none, .seq #[] 0, #[]⟩ ::
  ⟨.none, none, .func { name := (Str.ofString "low_bit"), qualname := (Str.ofString "low_bit"), params := prm (stAt 20), body := .stmts (bod (stAt 20)), scope := scp (stAt 20), globals := 0, closure := [], defaults := .none, kwdefaults := .none, doc := .none, pyModule := .none, annotations := none, code := .none, closureTuple := .none, builtins := 0 }, #[]⟩ ::
  ⟨(.type "code"), none, .fields #[(.str (Str.ofString "low_bit") 649), (.str (Str.ofString "low_bit") 650), (.str (Str.ofString "/claim/cut.py") 651), (.int 359 0), (.int 1 0), (.int 0 0), (.int 0 0), (.int 3 0), (.ref 341), (.bool true), (.int 181 0), (.ref 342), .none, (.ref 343), (.ref 344), (.ref 345), (.int 654 0), (.int 359 0), (.str (Str.ofString "/claim/cut.py") 655)], #[]⟩ ::
  ⟨(.type "function"), none, .func (fnOf (Str.ofString "low_bit") (Str.ofString "low_bit") (prm (stAt 20)) (bod (stAt 20)) (scp (stAt 20)) .none .none .none (.str (Str.ofString "gateloom.truth") 631) none (.ref 346) .none), #[]⟩ ::
  ⟨(.type "tuple"), none, .seq #[] 0, #[]⟩ ::
  ⟨.none, none, .fields #[], #[]⟩ ::
  ⟨(.type "tuple"), none, .seq #[(.str (Str.ofString "aig") 662), (.str (Str.ofString "literals") 663), (.str (Str.ofString "seen") 664), (.str (Str.ofString "stack") 665), (.str (Str.ofString "literal") 666), (.str (Str.ofString "node") 667), (.str (Str.ofString "pair") 668)] 0, #[]⟩ ::
  ⟨(.type "tuple"), none, .seq #[] 0, #[]⟩ ::
  ⟨.none, none, .func { name := (Str.ofString "cone_nodes"), qualname := (Str.ofString "cone_nodes"), params := prm (stAt 22), body := .stmts (bod (stAt 22)), scope := scp (stAt 22), globals := 0, closure := [], defaults := .none, kwdefaults := .none, doc := .none, pyModule := .none, annotations := none, code := .none, closureTuple := .none, builtins := 0 }, #[]⟩ ::
  ⟨(.type "code"), none, .fields #[(.str (Str.ofString "cone_nodes") 659), (.str (Str.ofString "cone_nodes") 660), (.str (Str.ofString "/claim/cut.py") 661), (.int 365 0), (.int 2 0), (.int 0 0), (.int 0 0), (.int 3 0), (.ref 348), (.bool true), (.int 181 0), (.ref 349), .none, (.ref 350), (.ref 351), (.ref 352), (.int 669 0), (.int 365 0), (.str (Str.ofString "/claim/cut.py") 670)], #[]⟩ ::
  ⟨(.type "function"), none, .func (fnOf (Str.ofString "cone_nodes") (Str.ofString "cone_nodes") (prm (stAt 22)) (bod (stAt 22)) (scp (stAt 22)) .none .none .none (.str (Str.ofString "gateloom.equiv") 657) none (.ref 353) .none), #[]⟩ ::
  ⟨(.type "tuple"), none, .seq #[] 0, #[]⟩ ::
  ⟨.none, none, .fields #[], #[]⟩ ::
  ⟨.none, none, .func { name := (Str.ofString "cone_inputs"), qualname := (Str.ofString "cone_inputs"), params := prm (stAt 24), body := .stmts (bod (stAt 24)), scope := scp (stAt 24), globals := 0, closure := [], defaults := .none, kwdefaults := .none, doc := .none, pyModule := .none, annotations := none, code := .none, closureTuple := .none, builtins := 0 }, #[]⟩ ::
  ⟨(.type "code"), none, .fields #[(.str (Str.ofString "cone_inputs") 673), (.str (Str.ofString "cone_inputs") 674), (.str (Str.ofString "/claim/cut.py") 675), (.int 380 0), (.int 2 0), (.int 0 0), (.int 0 0), (.int 3 0), (.ref 355), (.bool true), (.int 181 0), (.ref 356), .none, .none, .none, (.ref 357), (.int 676 0), (.int 380 0), (.str (Str.ofString "/claim/cut.py") 677)], #[]⟩ ::
  ⟨(.type "function"), none, .func (fnOf (Str.ofString "cone_inputs") (Str.ofString "cone_inputs") (prm (stAt 24)) (bod (stAt 24)) (scp (stAt 24)) .none .none .none (.str (Str.ofString "gateloom.equiv") 657) none (.ref 358) .none), #[]⟩ ::
  ⟨(.type "tuple"), none, .seq #[] 0, #[]⟩ ::
  ⟨.none, none, .fields #[], #[]⟩ ::
  ⟨(.type "tuple"), none, .seq #[(.str (Str.ofString "aig") 682), (.str (Str.ofString "nodes") 683), (.str (Str.ofString "inputs") 684), (.str (Str.ofString "k") 685), (.str (Str.ofString "full") 686), (.str (Str.ofString "words") 687), (.str (Str.ofString "i") 688), (.str (Str.ofString "node") 689), (.str (Str.ofString "pair") 690), (.str (Str.ofString "left") 691)] 0, #[]⟩ ::
  ⟨(.type "tuple"), none, .seq #[] 0, #[]⟩ ::
  ⟨.none, none, .func { name := (Str.ofString "cone_words"), qualname := (Str.ofString "cone_words"), params := prm (stAt 25), body := .stmts (bod (stAt 25)), scope := scp (stAt 25), globals := 0, closure := [], defaults := .none, kwdefaults := .none, doc := .none, pyModule := .none, annotations := none, code := .none, closureTuple := .none, builtins := 0 }, #[]⟩ ::
  ⟨(.type "code"), none, .fields #[(.str (Str.ofString "cone_words") 679), (.str (Str.ofString "cone_words") 680), (.str (Str.ofString "/claim/cut.py") 681), (.int 382 0), (.int 3 0), (.int 0 0), (.int 0 0), (.int 3 0), (.ref 360), (.bool true), (.int 181 0), (.ref 361), .none, (.ref 362), (.ref 363), (.ref 364), (.int 692 0), (.int 382 0), (.str (Str.ofString "/claim/cut.py") 693)], #[]⟩ ::
  ⟨(.type "function"), none, .func (fnOf (Str.ofString "cone_words") (Str.ofString "cone_words") (prm (stAt 25)) (bod (stAt 25)) (scp (stAt 25)) .none .none .none (.str (Str.ofString "gateloom.equiv") 657) none (.ref 365) .none), #[]⟩ ::
  ⟨(.type "tuple"), none, .seq #[] 0, #[]⟩ ::
  ⟨.none, none, .fields #[], #[]⟩ ::
  ⟨(.type "tuple"), none, .seq #[(.str (Str.ofString "aig") 698), (.str (Str.ofString "left") 699), (.str (Str.ofString "right") 700), (.str (Str.ofString "nodes") 701), (.str (Str.ofString "inputs") 702), (.str (Str.ofString "words") 703), (.str (Str.ofString "full") 704), (.str (Str.ofString "differ") 705), (.str (Str.ofString "row") 706), (.str (Str.ofString "bits") 707), (.str (Str.ofString "i") 708)] 0, #[]⟩ ::
  ⟨(.type "tuple"), none, .seq #[] 0, #[]⟩ ::
  ⟨.none, none, .func { name := (Str.ofString "table_difference"), qualname := (Str.ofString "table_difference"), params := prm (stAt 26), body := .stmts (bod (stAt 26)), scope := scp (stAt 26), globals := 0, closure := [], defaults := .none, kwdefaults := .none, doc := .none, pyModule := .none, annotations := none, code := .none, closureTuple := .none, builtins := 0 }, #[]⟩ ::
  ⟨(.type "code"), none, .fields #[(.str (Str.ofString "table_difference") 695), (.str (Str.ofString "table_difference") 696), (.str (Str.ofString "/claim/cut.py") 697), (.int 394 0), (.int 5 0), (.int 0 0), (.int 0 0), (.int 3 0), (.ref 367), (.bool true), (.int 181 0), (.ref 368), .none, (.ref 369), (.ref 370), (.ref 371), (.int 709 0), (.int 394 0), (.str (Str.ofString "/claim/cut.py") 710)], #[]⟩ ::
  ⟨(.type "function"), none, .func (fnOf (Str.ofString "table_difference") (Str.ofString "table_difference") (prm (stAt 26)) (bod (stAt 26)) (scp (stAt 26)) .none .none .none (.str (Str.ofString "gateloom.equiv") 657) none (.ref 372) .none), #[]⟩ ::
  ⟨(.type "tuple"), none, .seq #[] 0, #[]⟩ ::
  ⟨.none, none, .fields #[], #[]⟩ ::
  ⟨(.type "tuple"), none, .seq #[(.str (Str.ofString "words") 719), (.str (Str.ofString "count") 720), (.str (Str.ofString "word") 721)] 0, #[]⟩ ::
  ⟨(.type "tuple"), none, .seq #[] 0, #[]⟩ ::
  ⟨.none, none, .func { name := (Str.ofString "pattern_count"), qualname := (Str.ofString "pattern_count"), params := prm (stAt 29), body := .stmts (bod (stAt 29)), scope := scp (stAt 29), globals := 0, closure := [], defaults := .none, kwdefaults := .none, doc := .none, pyModule := .none, annotations := none, code := .none, closureTuple := .none, builtins := 0 }, #[]⟩ ::
  ⟨(.type "code"), none, .fields #[(.str (Str.ofString "pattern_count") 716), (.str (Str.ofString "pattern_count") 717), (.str (Str.ofString "/claim/cut.py") 718), (.int 407 0), (.int 1 0), (.int 0 0), (.int 0 0), (.int 3 0), (.ref 374), (.bool true), (.int 181 0), (.ref 375), .none, (.ref 376), (.ref 377), (.ref 378), (.int 722 0), (.int 407 0), (.str (Str.ofString "/claim/cut.py") 723)], #[]⟩ ::
  ⟨(.type "function"), none, .func (fnOf (Str.ofString "pattern_count") (Str.ofString "pattern_count") (prm (stAt 29)) (bod (stAt 29)) (scp (stAt 29)) .none .none .none (.str (Str.ofString "gateloom.fraig") 712) none (.ref 379) .none), #[]⟩ ::
  ⟨(.type "tuple"), none, .seq #[] 0, #[]⟩ ::
  ⟨(.type "builtin_function_or_method"), none, .fields #[(.builtin "type.__prepare__"), (.type "type")], #[]⟩ ::
  ⟨(.type "dict"), none, .dict #[ent P "__module__" 732 (.str (Str.ofString "gateloom.fraig") 712), ent P "__qualname__" 734 (.str (Str.ofString "Signatures") 733), ent P "__firstlineno__" 736 (.int 412 735), ent P "__init__" 746 (.ref 394), ent P "mask" 753 (.ref 401), ent P "refresh" 761 (.ref 408), ent P "normal" 770 (.ref 415), ent P "follow" 781 (.ref 422), ent P "keep" 789 (.ref 429), ent P "add_pattern" 799 (.ref 436), ent P "__static_attributes__" 806 (.ref 437)] 11, #[]⟩ ::
  ⟨(.type "tuple"), none, .seq #[] 0, #[]⟩ ::
  ⟨.none, none, .fields #[(.int 414 0), (.int 4 0), (.ref 393), (.int 425 0), (.int 4 0), (.ref 400), (.int 428 0), (.int 4 0), (.ref 407), (.int 434 0), (.int 4 0), (.ref 414), (.int 440 0), (.int 4 0), (.ref 421), (.int 445 0), (.int 4 0), (.ref 428), (.int 449 0), (.int 4 0), (.ref 435)], #[]⟩ ::
  ⟨(.type "code"), none, .fields #[(.str (Str.ofString "Signatures") 727), (.str (Str.ofString "Signatures") 728), (.str (Str.ofString "/claim/cut.py") 729), (.int 412 0), (.int 0 0), (.int 0 0), (.int 0 0), (.int 0 0), (.ref 384), (.bool false), (.int 181 0), (.ref 385), .none, .none, .none, .none, (.int 730 0), (.int 412 0), (.str (Str.ofString "/claim/cut.py") 731)], #[]⟩ ::
  ⟨(.type "frame"), none, .plain, #[some (.ref 386), some (.ref 3), some (.ref 383), none, some (.str (Str.ofString "gateloom.fraig") 712), none, some (.ref 0)]⟩ ::
  ⟨(.type "tuple"), none, .seq #[] 0, #[]⟩ ::
  ⟨.none, none, .fields #[], #[]⟩ ::
  ⟨(.type "tuple"), none, .seq #[(.str (Str.ofString "self") 740), (.str (Str.ofString "aig") 741), (.str (Str.ofString "words") 742), (.str (Str.ofString "place") 743)] 0, #[]⟩ ::
  ⟨(.type "tuple"), none, .seq #[] 0, #[]⟩ ::
  ⟨.none, none, .func { name := (Str.ofString "__init__"), qualname := (Str.ofString "Signatures.__init__"), params := prm (mtAt 30 0), body := .stmts (bod (mtAt 30 0)), scope := scp (mtAt 30 0), globals := 0, closure := [], defaults := .none, kwdefaults := .none, doc := .none, pyModule := .none, annotations := none, code := .none, closureTuple := .none, builtins := 0 }, #[]⟩ ::
  ⟨(.type "code"), none, .fields #[(.str (Str.ofString "__init__") 737), (.str (Str.ofString "Signatures.__init__") 738), (.str (Str.ofString "/claim/cut.py") 739), (.int 414 0), (.int 3 0), (.int 0 0), (.int 0 0), (.int 3 0), (.ref 388), (.bool true), (.int 181 0), (.ref 389), .none, (.ref 390), (.ref 391), (.ref 392), (.int 744 0), (.int 414 0), (.str (Str.ofString "/claim/cut.py") 745)], #[]⟩ ::
  ⟨(.type "function"), none, .func (fnOf (Str.ofString "__init__") (Str.ofString "Signatures.__init__") (prm (mtAt 30 0)) (bod (mtAt 30 0)) (scp (mtAt 30 0)) .none .none .none (.str (Str.ofString "gateloom.fraig") 712) none (.ref 393) .none), #[]⟩ ::
  ⟨(.type "tuple"), none, .seq #[] 0, #[]⟩ ::
  ⟨.none, none, .fields #[], #[]⟩ ::
  ⟨(.type "tuple"), none, .seq #[(.str (Str.ofString "self") 750)] 0, #[]⟩ ::
  ⟨(.type "tuple"), none, .seq #[] 0, #[]⟩ ::
  ⟨.none, none, .func { name := (Str.ofString "mask"), qualname := (Str.ofString "Signatures.mask"), params := prm (mtAt 30 1), body := .stmts (bod (mtAt 30 1)), scope := scp (mtAt 30 1), globals := 0, closure := [], defaults := .none, kwdefaults := .none, doc := .none, pyModule := .none, annotations := none, code := .none, closureTuple := .none, builtins := 0 }, #[]⟩ ::
  ⟨(.type "code"), none, .fields #[(.str (Str.ofString "mask") 747), (.str (Str.ofString "Signatures.mask") 748), (.str (Str.ofString "/claim/cut.py") 749), (.int 425 0), (.int 1 0), (.int 0 0), (.int 0 0), (.int 3 0), (.ref 395), (.bool true), (.int 181 0), (.ref 396), .none, (.ref 397), (.ref 398), (.ref 399), (.int 751 0), (.int 425 0), (.str (Str.ofString "/claim/cut.py") 752)], #[]⟩ ::
  ⟨(.type "function"), none, .func (fnOf (Str.ofString "mask") (Str.ofString "Signatures.mask") (prm (mtAt 30 1)) (bod (mtAt 30 1)) (scp (mtAt 30 1)) .none .none .none (.str (Str.ofString "gateloom.fraig") 712) none (.ref 400) .none), #[]⟩ ::
  ⟨(.type "tuple"), none, .seq #[] 0, #[]⟩ ::
  ⟨.none, none, .fields #[], #[]⟩ ::
  ⟨(.type "tuple"), none, .seq #[(.str (Str.ofString "self") 757), (.str (Str.ofString "node") 758)] 0, #[]⟩ ::
  ⟨(.type "tuple"), none, .seq #[] 0, #[]⟩ ::
  ⟨.none, none, .func { name := (Str.ofString "refresh"), qualname := (Str.ofString "Signatures.refresh"), params := prm (mtAt 30 2), body := .stmts (bod (mtAt 30 2)), scope := scp (mtAt 30 2), globals := 0, closure := [], defaults := .none, kwdefaults := .none, doc := .none, pyModule := .none, annotations := none, code := .none, closureTuple := .none, builtins := 0 }, #[]⟩ ::
  ⟨(.type "code"), none, .fields #[(.str (Str.ofString "refresh") 754), (.str (Str.ofString "Signatures.refresh") 755), (.str (Str.ofString "/claim/cut.py") 756), (.int 428 0), (.int 1 0), (.int 0 0), (.int 0 0), (.int 3 0), (.ref 402), (.bool true), (.int 181 0), (.ref 403), .none, (.ref 404), (.ref 405), (.ref 406), (.int 759 0), (.int 428 0), (.str (Str.ofString "/claim/cut.py") 760)], #[]⟩ ::
  ⟨(.type "function"), none, .func (fnOf (Str.ofString "refresh") (Str.ofString "Signatures.refresh") (prm (mtAt 30 2)) (bod (mtAt 30 2)) (scp (mtAt 30 2)) .none .none .none (.str (Str.ofString "gateloom.fraig") 712) none (.ref 407) .none), #[]⟩ ::
  ⟨(.type "tuple"), none, .seq #[] 0, #[]⟩ ::
  ⟨.none, none, .fields #[], #[]⟩ ::
  ⟨(.type "tuple"), none, .seq #[(.str (Str.ofString "self") 765), (.str (Str.ofString "node") 766), (.str (Str.ofString "word") 767)] 0, #[]⟩ ::
  ⟨(.type "tuple"), none, .seq #[] 0, #[]⟩ ::
  ⟨.none, none, .func { name := (Str.ofString "normal"), qualname := (Str.ofString "Signatures.normal"), params := prm (mtAt 30 3), body := .stmts (bod (mtAt 30 3)), scope := scp (mtAt 30 3), globals := 0, closure := [], defaults := .none, kwdefaults := .none, doc := .none, pyModule := .none, annotations := none, code := .none, closureTuple := .none, builtins := 0 }, #[]⟩ ::
  ⟨(.type "code"), none, .fields #[(.str (Str.ofString "normal") 762), (.str (Str.ofString "Signatures.normal") 763), (.str (Str.ofString "/claim/cut.py") 764), (.int 434 0), (.int 2 0), (.int 0 0), (.int 0 0), (.int 3 0), (.ref 409), (.bool true), (.int 181 0), (.ref 410), .none, (.ref 411), (.ref 412), (.ref 413), (.int 768 0), (.int 434 0), (.str (Str.ofString "/claim/cut.py") 769)], #[]⟩ ::
  ⟨(.type "function"), none, .func (fnOf (Str.ofString "normal") (Str.ofString "Signatures.normal") (prm (mtAt 30 3)) (bod (mtAt 30 3)) (scp (mtAt 30 3)) .none .none .none (.str (Str.ofString "gateloom.fraig") 712) none (.ref 414) .none), #[]⟩ ::
  ⟨(.type "tuple"), none, .seq #[] 0, #[]⟩ ::
  ⟨.none, none, .fields #[], #[]⟩ ::
  ⟨(.type "tuple"), none, .seq #[(.str (Str.ofString "self") 774), (.str (Str.ofString "node") 775), (.str (Str.ofString "left") 776), (.str (Str.ofString "right") 777), (.str (Str.ofString "word") 778)] 0, #[]⟩ ::
  ⟨(.type "tuple"), none, .seq #[] 0, #[]⟩ ::
  ⟨.none, none, .func { name := (Str.ofString "follow"), qualname := (Str.ofString "Signatures.follow"), params := prm (mtAt 30 4), body := .stmts (bod (mtAt 30 4)), scope := scp (mtAt 30 4), globals := 0, closure := [], defaults := .none, kwdefaults := .none, doc := .none, pyModule := .none, annotations := none, code := .none, closureTuple := .none, builtins := 0 }, #[]⟩ ::
  ⟨(.type "code"), none, .fields #[(.str (Str.ofString "follow") 771), (.str (Str.ofString "Signatures.follow") 772), (.str (Str.ofString "/claim/cut.py") 773), (.int 440 0), (.int 2 0), (.int 0 0), (.int 0 0), (.int 3 0), (.ref 416), (.bool true), (.int 181 0), (.ref 417), .none, (.ref 418), (.ref 419), (.ref 420), (.int 779 0), (.int 440 0), (.str (Str.ofString "/claim/cut.py") 780)], #[]⟩ ::
  ⟨(.type "function"), none, .func (fnOf (Str.ofString "follow") (Str.ofString "Signatures.follow") (prm (mtAt 30 4)) (bod (mtAt 30 4)) (scp (mtAt 30 4)) .none .none .none (.str (Str.ofString "gateloom.fraig") 712) none (.ref 421) .none), #[]⟩ ::
  ⟨(.type "tuple"), none, .seq #[] 0, #[]⟩ ::
  ⟨.none, none, .fields #[], #[]⟩ ::
  ⟨(.type "tuple"), none, .seq #[(.str (Str.ofString "self") 785), (.str (Str.ofString "node") 786)] 0, #[]⟩ ::
  ⟨(.type "tuple"), none, .seq #[] 0, #[]⟩ ::
  ⟨.none, none, .func { name := (Str.ofString "keep"), qualname := (Str.ofString "Signatures.keep"), params := prm (mtAt 30 5), body := .stmts (bod (mtAt 30 5)), scope := scp (mtAt 30 5), globals := 0, closure := [], defaults := .none, kwdefaults := .none, doc := .none, pyModule := .none, annotations := none, code := .none, closureTuple := .none, builtins := 0 }, #[]⟩ ::
  ⟨(.type "code"), none, .fields #[(.str (Str.ofString "keep") 782), (.str (Str.ofString "Signatures.keep") 783), (.str (Str.ofString "/claim/cut.py") 784), (.int 445 0), (.int 2 0), (.int 0 0), (.int 0 0), (.int 3 0), (.ref 423), (.bool true), (.int 181 0), (.ref 424), .none, (.ref 425), (.ref 426), (.ref 427), (.int 787 0), (.int 445 0), (.str (Str.ofString "/claim/cut.py") 788)], #[]⟩ ::
  ⟨(.type "function"), none, .func (fnOf (Str.ofString "keep") (Str.ofString "Signatures.keep") (prm (mtAt 30 5)) (bod (mtAt 30 5)) (scp (mtAt 30 5)) .none .none .none (.str (Str.ofString "gateloom.fraig") 712) none (.ref 428) .none), #[]⟩ ::
  ⟨(.type "tuple"), none, .seq #[] 0, #[]⟩ ::
  ⟨.none, none, .fields #[], #[]⟩ ::
  ⟨(.type "tuple"), none, .seq #[(.str (Str.ofString "self") 793), (.str (Str.ofString "bits") 794), (.str (Str.ofString "place") 795), (.str (Str.ofString "bit") 796)] 0, #[]⟩ ::
  ⟨(.type "tuple"), none, .seq #[] 0, #[]⟩ ::
  ⟨.none, none, .func { name := (Str.ofString "add_pattern"), qualname := (Str.ofString "Signatures.add_pattern"), params := prm (mtAt 30 6), body := .stmts (bod (mtAt 30 6)), scope := scp (mtAt 30 6), globals := 0, closure := [], defaults := .none, kwdefaults := .none, doc := .none, pyModule := .none, annotations := none, code := .none, closureTuple := .none, builtins := 0 }, #[]⟩ ::
  ⟨(.type "code"), none, .fields #[(.str (Str.ofString "add_pattern") 790), (.str (Str.ofString "Signatures.add_pattern") 791), (.str (Str.ofString "/claim/cut.py") 792), (.int 449 0), (.int 2 0), (.int 0 0), (.int 0 0), (.int 3 0), (.ref 430), (.bool true), (.int 181 0), (.ref 431), .none, (.ref 432), (.ref 433), (.ref 434), (.int 797 0), (.int 449 0), (.str (Str.ofString "/claim/cut.py") 798)], #[]⟩ ::
  ⟨(.type "function"), none, .func (fnOf (Str.ofString "add_pattern") (Str.ofString "Signatures.add_pattern") (prm (mtAt 30 6)) (bod (mtAt 30 6)) (scp (mtAt 30 6)) .none .none .none (.str (Str.ofString "gateloom.fraig") 712) none (.ref 435) .none), #[]⟩ ::
  ⟨(.type "tuple"), none, .seq #[(.str (Str.ofString "aig") 800), (.str (Str.ofString "classes") 801), (.str (Str.ofString "count") 802), (.str (Str.ofString "kept") 803), (.str (Str.ofString "rows") 804), (.str (Str.ofString "values") 805)] 0, #[]⟩ ::
  ⟨(.type "dict"), none, .dict #[ent P "__module__" 732 (.str (Str.ofString "gateloom.fraig") 712), ent P "__firstlineno__" 736 (.int 412 735), ent P "__init__" 746 (.ref 394), ent P "mask" 753 (.ref 401), ent P "refresh" 761 (.ref 408), ent P "normal" 770 (.ref 415), ent P "follow" 781 (.ref 422), ent P "keep" 789 (.ref 429), ent P "add_pattern" 799 (.ref 436), ent P "__static_attributes__" 806 (.ref 437), ent P "__dict__" 808 (.ref 440), ent P "__weakref__" 810 (.ref 441), ent P "__doc__" 811 .none] 4, #[]⟩ ::
  ⟨(.type "type"), none, .cls { name := (Str.ofString "Signatures"), bases := [(.type "object")], mro := [(.ref 439), (.type "object")], ns := 438, qualname := (Str.ofString "Signatures"), hasDict := true, slotNames := [], subclasses := [], abstract := false, collection := none, hasDel := false }, #[none, none, some (.str (Str.ofString "Signatures") 725), some (.str (Str.ofString "Signatures") 733), some (.builtin "object.__new__"), some (.bool true)]⟩ ::
  ⟨(.type "getset_descriptor"), none, .fields #[(.str (Str.ofString "__dict__") 807), (.ref 439), (.builtin "function.__dict__"), (.builtin "function.__dict__#set")], #[]⟩ ::
  ⟨(.type "getset_descriptor"), none, .fields #[(.str (Str.ofString "__weakref__") 809), (.ref 439), (.builtin "ExceptionGroup.__weakref__"), .none], #[]⟩ ::
  ⟨(.type "super"), none, .fields #[(.ref 439), (.ref 439), (.ref 439)], #[]⟩ ::
  ⟨(.type "builtin_function_or_method"), none, .fields #[(.builtin "object.__init_subclass__"), (.ref 439)], #[]⟩ ::
  tl
noncomputable def st15 (P : Params) : List Obj := stK P
  ⟨(.type "dict"), none, .dict #[ent P "__name__" 165 (.str (Str.ofString "gateloom.solver") 367), ent P "__doc__" 166 .none, ent P "__package__" 167 .none, ent P "__loader__" 168 (.builtin "__main__.__loader__#opaque"), ent P "__spec__" 169 .none, ent P "__annotations__" 170 (.ref 6), ent P "__builtins__" 171 (.ref 4), ent P "__file__" 173 (.str (Str.ofString "/claim/cut.py") 172), ent P "__cached__" 174 .none, ent P "_wall" 193 (.ref 21), ent P "Aig" 326 (.ref 116), ent P "literal_word" 335 (.ref 127), ent P "variable_of" 345 (.ref 134), ent P "cone_nodes" 351 (.ref 139), ent P "cone_nodes_cnf" 352 (.ref 139), ent P "aig_cnf" 366 (.ref 146), ent P "RESTART_UNIT" 370 (.int 32 369), ent P "ACTIVITY_LIMIT" 374 (.int 1000000000000 373), ent P "ACTIVITY_SCALE" 378 (.int 1000000 377), ent P "luby" 387 (.ref 153), ent P "slot" 394 (.ref 160), ent P "plain_clause" 403 (.ref 167)] 22, #[]⟩
  ⟨.none, none, .fields #[(.int 1 0), (.int 0 0), (.ref 20), (.int 5 0), (.int 0 0), (.ref 27), (.int 73 0), (.int 0 0), (.ref 126), (.int 78 0), (.int 0 0), (.ref 133), (.int 83 0), (.int 0 0), (.ref 138), (.int 94 0), (.int 0 0), (.ref 145), (.int 113 0), (.int 0 0), (.ref 152), (.int 120 0), (.int 0 0), (.ref 159), (.int 124 0), (.int 0 0), (.ref 166)], #[]⟩ (c15 P [])
noncomputable def st16 (P : Params) : List Obj := stK P
  ⟨(.type "dict"), none, .dict #[ent P "__name__" 165 (.str (Str.ofString "gateloom.solver") 367), ent P "__doc__" 166 .none, ent P "__package__" 167 .none, ent P "__loader__" 168 (.builtin "__main__.__loader__#opaque"), ent P "__spec__" 169 .none, ent P "__annotations__" 170 (.ref 6), ent P "__builtins__" 171 (.ref 4), ent P "__file__" 173 (.str (Str.ofString "/claim/cut.py") 172), ent P "__cached__" 174 .none, ent P "_wall" 193 (.ref 21), ent P "Aig" 326 (.ref 116), ent P "literal_word" 335 (.ref 127), ent P "variable_of" 345 (.ref 134), ent P "cone_nodes" 351 (.ref 139), ent P "cone_nodes_cnf" 352 (.ref 139), ent P "aig_cnf" 366 (.ref 146), ent P "RESTART_UNIT" 370 (.int 32 369), ent P "ACTIVITY_LIMIT" 374 (.int 1000000000000 373), ent P "ACTIVITY_SCALE" 378 (.int 1000000 377), ent P "luby" 387 (.ref 153), ent P "slot" 394 (.ref 160), ent P "plain_clause" 403 (.ref 167), ent P "Solver" 630 (.ref 322)] 23, #[]⟩
  ⟨.none, none, .fields #[(.int 1 0), (.int 0 0), (.ref 20), (.int 5 0), (.int 0 0), (.ref 27), (.int 73 0), (.int 0 0), (.ref 126), (.int 78 0), (.int 0 0), (.ref 133), (.int 83 0), (.int 0 0), (.ref 138), (.int 94 0), (.int 0 0), (.ref 145), (.int 113 0), (.int 0 0), (.ref 152), (.int 120 0), (.int 0 0), (.ref 159), (.int 124 0), (.int 0 0), (.ref 166), (.int 132 0), (.int 0 0), (.ref 173)], #[]⟩ (c15 P (c16 P []))
noncomputable def st30 (P : Params) : List Obj := stK P
  ⟨(.type "dict"), none, .dict #[ent P "__name__" 165 (.str (Str.ofString "gateloom.fraig") 712), ent P "__doc__" 166 .none, ent P "__package__" 167 .none, ent P "__loader__" 168 (.builtin "__main__.__loader__#opaque"), ent P "__spec__" 169 .none, ent P "__annotations__" 170 (.ref 6), ent P "__builtins__" 171 (.ref 4), ent P "__file__" 173 (.str (Str.ofString "/claim/cut.py") 172), ent P "__cached__" 174 .none, ent P "_wall" 193 (.ref 21), ent P "Aig" 326 (.ref 116), ent P "literal_word" 335 (.ref 127), ent P "variable_of" 345 (.ref 134), ent P "cone_nodes" 351 (.ref 354), ent P "cone_nodes_cnf" 352 (.ref 139), ent P "aig_cnf" 366 (.ref 146), ent P "RESTART_UNIT" 370 (.int 32 369), ent P "ACTIVITY_LIMIT" 374 (.int 1000000000000 373), ent P "ACTIVITY_SCALE" 378 (.int 1000000 377), ent P "luby" 387 (.ref 153), ent P "slot" 394 (.ref 160), ent P "plain_clause" 403 (.ref 167), ent P "Solver" 630 (.ref 322), ent P "full_table" 639 (.ref 333), ent P "var_table" 648 (.ref 340), ent P "low_bit" 656 (.ref 347), ent P "cone_nodes_equiv" 672 (.ref 354), ent P "cone_inputs" 678 (.ref 359), ent P "cone_words" 694 (.ref 366), ent P "table_difference" 711 (.ref 373), ent P "TABLE_INPUTS" 715 (.int 6 714), ent P "pattern_count" 724 (.ref 380), ent P "Signatures" 813 (.ref 439)] 33, #[]⟩
  ⟨.none, none, .fields #[(.int 1 0), (.int 0 0), (.ref 20), (.int 5 0), (.int 0 0), (.ref 27), (.int 73 0), (.int 0 0), (.ref 126), (.int 78 0), (.int 0 0), (.ref 133), (.int 83 0), (.int 0 0), (.ref 138), (.int 94 0), (.int 0 0), (.ref 145), (.int 113 0), (.int 0 0), (.ref 152), (.int 120 0), (.int 0 0), (.ref 159), (.int 124 0), (.int 0 0), (.ref 166), (.int 132 0), (.int 0 0), (.ref 173), (.int 354 0), (.int 0 0), (.ref 332), (.int 356 0), (.int 0 0), (.ref 339), (.int 359 0), (.int 0 0), (.ref 346), (.int 365 0), (.int 0 0), (.ref 353), (.int 380 0), (.int 0 0), (.ref 358), (.int 382 0), (.int 0 0), (.ref 365), (.int 394 0), (.int 0 0), (.ref 372), (.int 407 0), (.int 0 0), (.ref 379), (.int 412 0), (.int 0 0), (.ref 386)], #[]⟩ (c15 P (c16 P (c30 P [])))
abbrev tPw : Program := PySem.Challenge.pw_sj0059_01
noncomputable def tEnv : Env := { scope := PySem.Challenge.pw_sj0059_01.main.scope, locals := mainNs, globals := mainNs, cells := [], code := .ref 13, frame := some 14 }
noncomputable def tCd : Code := .body PySem.Challenge.pw_sj0059_01.main.body tEnv
noncomputable def p0 : Pos := ⟨0, 0, 0, 0⟩
noncomputable def p15 : Pos := ⟨124, 0, 131, 15⟩
noncomputable def p16 : Pos := ⟨132, 0, 352, 31⟩
noncomputable def p30 : Pos := ⟨412, 0, 454, 22⟩
noncomputable def shA (w : World) (os : OsState) : Shared := ⟨⟨⟨stA w.params⟩, {}⟩, #[], ⟨0, 0, 0, 0⟩, 187, os⟩
noncomputable def sh15 (w : World) (os : OsState) : Shared := ⟨⟨⟨st15 w.params⟩, {}⟩, #[], ⟨0, 0, 0, 0⟩, 404, os⟩
noncomputable def sh16 (w : World) (os : OsState) : Shared := ⟨⟨⟨st16 w.params⟩, {}⟩, #[], ⟨0, 0, 0, 0⟩, 631, os⟩
noncomputable def sh30 (w : World) (os : OsState) : Shared := ⟨⟨⟨st30 w.params⟩, {}⟩, #[], ⟨0, 0, 0, 0⟩, 814, os⟩
abbrev tB : List Stmt := PySem.Challenge.pw_sj0059_01.main.body
theorem l_pre : ∀ (w : World) (os : OsState), topGo treeTable PySem.Challenge.pw_sj0059_01 w 11 (some (.ref 6)) 12 ⟨boot_heap w.params, #[], boot_drawn, boot_toks, os⟩ (topStub PySem.Challenge.pw_sj0059_01) = some (shA w os, ⟨denote treeTable tCd, tCd, p0, [topFrame p0]⟩) := by
  intro w os
  kernel_rfl
theorem l_blk : ∀ (w : World) (os : OsState), segRun treeTable PySem.Challenge.pw_sj0059_01 w 11 (some (.ref 6)) 1 1 (shA w os) (blockOf PySem.Challenge.pw_sj0059_01.main.body tEnv tCd p0 [topFrame p0]) = some (.next, shA w os, tCd, p0) := by
  intro w os
  kernel_rfl
theorem l_1 : ∀ (w : World) (os : OsState), segRun treeTable PySem.Challenge.pw_sj0059_01 w 11 (some (.ref 6)) 1 909 (shA w os) (piecesOf (tB.take 16) tEnv tCd p0 [topFrame p0]) = some (.next, sh15 w os, tCd, p15) := by
  intro w os
  kernel_rfl
theorem l_2 : ∀ (w : World) (os : OsState), segRun treeTable PySem.Challenge.pw_sj0059_01 w 11 (some (.ref 6)) 1 900 (sh15 w os) (piecesOf ((tB.drop 16).take 1) tEnv tCd p15 [topFrame p0]) = some (.next, sh16 w os, tCd, p16) := by
  intro w os
  kernel_rfl
theorem l_3 : ∀ (w : World) (os : OsState), segRun treeTable PySem.Challenge.pw_sj0059_01 w 11 (some (.ref 6)) 1 732 (sh16 w os) (piecesOf (((tB.drop 16).drop 1).take 14) tEnv tCd p16 [topFrame p0]) = some (.next, sh30 w os, tCd, p30) := by
  intro w os
  kernel_rfl
noncomputable def Xt : Shared → Bool := fun s => xlAt view litV s && recOk (RowW.records PySem.Challenge.rw_sj0059_01.row.toRowW) s
noncomputable def lastN : Nat := 3446
theorem l_two : ∀ (w : World) (os : OsState), (topRun treeTable PySem.Challenge.pw_sj0059_01 w 11 (some (.ref 6)) lastN (sh30 w os) (restOf (((tB.drop 16).drop 1).drop 14) tEnv tCd p30 [topFrame p0])).map
    (fun s => ((staticsOk (importedModules PySem.Challenge.pw_sj0059_01.main.body) (boot_heap w.params) s.heap && namesBound PySem.Challenge.pw_sj0059_01 s.heap && gensDone s && laidKept (boot_heap w.params) s.heap),
      (openSeen view looseN (importedModules PySem.Challenge.pw_sj0059_01.main.body) Xt true s, Hook.obs hook s))) = some (true, (openGood view looseN, Hook.val hook w)) := by
  intro w os
  kernel_rfl
end
-- H3
theorem open0 : ∀ w : World, (fencedOpening treeTable PySem.Challenge.pw_sj0059_01 w 6000).map (fun s => (s.heap, s.gens, s.drawn, s.toks)) = some (boot_heap w.params, #[], boot_drawn, boot_toks) :=
  boot_open (p := PySem.Challenge.pw_sj0059_01) (N := 6000) (by kernel_rfl) (by kernel_rfl) (fun s => by kernel_rfl)
theorem size0 : ∀ w : World, ((boot_heap w.params).isNs mainGlobals && (#[] : Array GenState).size == 0, (boot_heap w.params).objs.size, (boot_heap w.params).nsMap mainGlobals "__annotations__") = (true, 11, some (.ref 6)) := fun w => by kernel_rfl
theorem n_eq : 6000 = 12 + (1 + (909 + (900 + (732 + lastN)))) := by decide
theorem run0 {w : World} {os : OsState} {r : Shared} (h : topRun treeTable PySem.Challenge.pw_sj0059_01 w 11 (some (.ref 6)) lastN (sh30 w os) (restOf (((tB.drop 16).drop 1).drop 14) tEnv tCd p30 [topFrame p0]) = some r) :
    topRun treeTable PySem.Challenge.pw_sj0059_01 w 11 (some (.ref 6)) 6000 ⟨boot_heap w.params, #[], boot_drawn, boot_toks, os⟩ (topStub PySem.Challenge.pw_sj0059_01) = some r := by
  have h1 := piece_app (l := ((tB.drop 16).drop 1).take 14) (l_3 w os) h
  rw [List.take_append_drop] at h1
  have h2 := piece_app (l := (tB.drop 16).take 1) (l_2 w os) h1
  rw [List.take_append_drop] at h2
  have h3 := piece_app (l := tB.take 16) (l_1 w os) h2
  rw [List.take_append_drop] at h3
  have h4 := piece_block (l_blk w os) h3
  have h5 := go_top (l_pre w os) h4
  rw [n_eq]
  exact h5
theorem left : LeftO PySem.Challenge.pw_sj0059_01 view looseN Xt (Hook.obs hook) (Hook.val hook) 6000 := fun w => by
  obtain ⟨⟨h, gs, d, k, os⟩, e, e'⟩ := Option.map_eq_some_iff.mp (open0 w)
  obtain ⟨rfl, rfl, rfl, rfl⟩ : h = boot_heap w.params ∧ gs = #[] ∧ d = boot_drawn ∧ k = boot_toks := by simpa using e'
  obtain ⟨r, hr, hz⟩ := Option.map_eq_some_iff.mp (l_two w os)
  obtain ⟨z1, z2, z3⟩ : _ ∧ _ ∧ _ := by simpa only [Prod.mk.injEq] using size0 w
  have hz1 := congrArg Prod.fst hz
  have hz2 := congrArg Prod.snd hz
  dsimp only at hz1 hz2
  have hrun := run0 hr
  have t : topFrom treeTable PySem.Challenge.pw_sj0059_01 w 6000 ⟨boot_heap w.params, #[], boot_drawn, boot_toks, os⟩ = some r := by
    unfold topFrom
    dsimp only
    rw [z1, z2, z3, hrun]
    show (match staticsOk (importedModules PySem.Challenge.pw_sj0059_01.main.body) (boot_heap w.params) r.heap && namesBound PySem.Challenge.pw_sj0059_01 r.heap && gensDone r && laidKept (boot_heap w.params) r.heap with | true => _ | false => _) = _
    rw [hz1]
  unfold openEnds
  rw [e, Option.bind_some, t, Option.map_some]
  exact congrArg some hz2
-- H4
theorem o1 : namesResolve PySem.Challenge.rw_sj0059_01.row.prog = true := by kernel_rfl
theorem o2 : (["vars", "dir", "locals"] : List Str).filter (readsOut PySem.Challenge.rw_sj0059_01.row.prog PySem.Challenge.rw_sj0059_01.row.prog.main.body) = [] := by kernel_rfl
theorem o3 : (namesMeet PySem.Challenge.rw_sj0059_01.row.prog PySem.Challenge.rw_sj0059_01.row.prog.main.body fun _ n => attrL n) = true := by kernel_rfl
theorem o4 : looksOpen PySem.Challenge.rw_sj0059_01.row.prog = true := by
  unfold looksOpen
  rw [o1, o2, o3]
  kernel_rfl
theorem saidRow : OpenRow.wellSaid PySem.Challenge.rw_sj0059_01.row = true := by
  unfold OpenRow.wellSaid OpenRow.partSaid
  rw [o4]
  kernel_rfl
theorem said : OpenLaw.wellSaid PySem.Challenge.rw_sj0059_01 = true := by
  unfold OpenLaw.wellSaid
  rw [saidRow]
  kernel_rfl
theorem okT : (chainsOk view && opensWell PySem.Challenge.pw_sj0059_01 && (frees PySem.Challenge.rw_sj0059_01.row.toRowW && PySem.Challenge.rw_sj0059_01.row.toRowW.within.isEmpty)) = true := by kernel_rfl
theorem bareT : PySem.Challenge.rw_sj0059_01.row.prog.bare := ⟨rfl, rfl, rfl, rfl, rfl, by decide +kernel⟩
theorem witT : PySem.Challenge.rw_sj0059_01.row.toRowW.promised := ⟨[WData.list []], by decide +kernel, by decide +kernel⟩
theorem hdefT : defOf view PySem.Challenge.rw_sj0059_01.row.name = some (⟨Str.ofString "law", prm (stAt 40), bod (stAt 40), scp (stAt 40), ⟨584, 0, 597, 40⟩⟩, []) := by kernel_rfl
theorem hthe : PySem.Challenge.rw_sj0059_01.row.prog.theDef PySem.Challenge.rw_sj0059_01.row.name = some (prm (stAt 40), bod (stAt 40), scp (stAt 40)) := by kernel_rfl
theorem hkwT : kwWritten? (prm (stAt 40)).kwonlyargs (prm (stAt 40)).kw_defaults = some [] := by kernel_rfl
theorem head (call : WalkO view looseN (XL view litV) (Hook.says hook) PySem.Challenge.rw_sj0059_01.row.toRowW ⟨Str.ofString "law", prm (stAt 40), bod (stAt 40), scp (stAt 40), ⟨584, 0, 597, 40⟩⟩ [] fun f vs => PySem.call f vs) : PySem.Challenge.rw_sj0059_01.Holds :=
  holds_law said fun _ => holds_open (q := view) (loose := looseN) (Xt := Xt) (XP := XL view litV) (Yf := Hook.obs hook) (Ya := Hook.val hook) (YP := Hook.says hook) (N := 6000) left (Hook.of hook) (Hook.keeps hook)
    (fun s e => xl_of s (Bool.and_eq_true_iff.mp e).1) XL.keeps hdefT hthe hkwT (fun s e => recFacts_of (Bool.and_eq_true_iff.mp e).2) (by kernel_rfl) saidRow okT bareT witT call
open PySem.Calls
-- L1
noncomputable abbrev Led := List (Addr × Obj)
/-- a frame of the walk: what stands frozen, the frame's own dict, the frames around -/
structure Fx where
  w : World
  g : Heap
  L : Addr
  A : Around
  A₀ : Around
  base : Heap
  outer : List Env
  qual : Str
  scope : Scope
  f : Addr
  cd : Value
  xs : List Str
  gens : Array GenState
  os : OsState
  dr : Drawn
  lv : Nat
  cl : List (Str × Addr) := []
noncomputable abbrev Fx.env (F : Fx) : Env := envX F.qual F.scope F.L F.f F.cd F.cl
noncomputable abbrev Fx.M (F : Fx) : Model := model PySem.Challenge.pw_sj0059_01 F.w
noncomputable abbrev Fx.K (F : Fx) : Frag := KK F.w.params
structure Fx.Ok (F : Fx) : Prop where
  K : F.K.In F.g
  T : ∃ mean mg mb, Top view (looseW view looseN) mean mg mb F.g
  B : Below F.A₀ F.base F.outer F.g
  fr : F.A.frames = some (F.env :: F.outer)
  hd : F.A.handled = none
  kind : F.scope.kind = .function
  dep : F.A.depth ≤ 310 + 3 * F.lv
  uni : F.A.units ≤ 20 + 10 * F.lv
  lvl : F.lv ≤ 40
  nd : F.xs.Nodup
  loc : ∀ x ∈ F.xs, F.scope.names.lookup x = some .local
noncomputable def lay : List Str → List (Option Value) → Str → Option Value
  | x :: xs, v :: vs, y => if y = x then v else lay xs vs y
  | _, _, _ => none
/-- the name x stands at a place of xs whose value is v -/
inductive At : List Str → List (Option Value) → Str → Value → Prop
  | head {x xs v vs} : At (x :: xs) (some v :: vs) x v
  | tail {x y xs v u vs} (h : At xs vs x v) : At (y :: xs) (u :: vs) x v
inductive Put : List Str → List (Option Value) → Str → Value → List (Option Value) → Prop
  | head {x xs u v vs} : Put (x :: xs) (u :: vs) x v (some v :: vs)
  | tail {x y xs u v vs vs'} (h : Put xs vs x v vs') : Put (y :: xs) (u :: vs) x v (u :: vs')
theorem At.mem {xs vs x v} (h : At xs vs x v) : x ∈ xs := by
  induction h with
  | head => exact .head _
  | tail _ ih => exact .tail _ ih
theorem Put.mem {xs vs x v vs'} (h : Put xs vs x v vs') : x ∈ xs := by
  induction h with
  | head => exact .head _
  | tail _ ih => exact .tail _ ih
theorem At.lay {xs vs x v} (nd : xs.Nodup) (h : At xs vs x v) : lay xs vs x = some v := by
  induction h with
  | head => simp [Mine.lay]
  | @tail x y xs v u vs h ih =>
    have hn := List.nodup_cons.mp nd
    have : x ≠ y := fun e => hn.1 (e ▸ h.mem)
    simp [Mine.lay, this, ih hn.2]
theorem Put.lay {xs vs x v vs'} (nd : xs.Nodup) (h : Put xs vs x v vs') : (fun y => if y = x then some v else lay xs vs y) = lay xs vs' := by
  induction h with
  | head =>
    funext y
    simp only [Mine.lay]
    split <;> rfl
  | @tail x y xs u v vs vs' h ih =>
    have hn := List.nodup_cons.mp nd
    have ne : x ≠ y := fun e => hn.1 (e ▸ h.mem)
    funext z
    have := congrFun (ih hn.2) z
    simp only [Mine.lay] at this ⊢
    by_cases h1 : z = x
    · subst h1; simp only [if_true] at this ⊢; rw [if_neg ne]; exact this
    · rw [if_neg h1] at this ⊢; split
      · rfl
      · exact this
theorem Put.len {xs vs x v vs'} (h : Put xs vs x v vs') : vs'.length = vs.length := by
  induction h with
  | head => rfl
  | tail _ ih => simp [ih]
theorem put_set {x : Str} {v : Value} : ∀ {xs : List Str} {vs : List (Option Value)} {j : Nat}, xs[j]? = some x → vs.length = xs.length → Put xs vs x v (vs.set j (some v))
  | [], _, _, h, _ => by simp at h
  | y :: xs, u :: vs, 0, h, _ => by
    simp only [List.getElem?_cons_zero, Option.some.injEq] at h
    subst h
    exact .head
  | y :: xs, u :: vs, j + 1, h, hl => by
    simp only [List.getElem?_cons_succ] at h
    exact .tail (put_set h (by simpa using hl))
structure St (F : Fx) (vs : List (Option Value)) (D : Led) (s : Shared) : Prop where
  fr : Fr F.g F.L s.heap (lay F.xs vs)
  nw : News F.g F.L s.heap D
  nd : (D.map (·.1)).Nodup
  ln : vs.length = F.xs.length
  gens : s.gens = F.gens
  os : s.os = F.os ∧ s.drawn = F.dr
variable {α β : Type}
noncomputable def HT (F : Fx) (vs : List (Option Value)) (D : Led) (t : Sem α) (Q : α → List (Option Value) → Led → Prop) : Prop :=
  ∀ s, St F vs D s → wpAny F.M F.A t (fun a s' => ∃ vs' D', St F vs' D' s' ∧ Q a vs' D') (fun _ _ => False) s
section
variable {F : Fx} {vs vs' : List (Option Value)} {D D' : Led} {t : Sem α} {Q : α → List (Option Value) → Led → Prop}
theorem HT.use {P : α → Shared → Prop} {E : Value → Shared → Prop} {s : Shared} (h : HT F vs D t Q) (hs : St F vs D s) (k : ∀ a s' vs' D', St F vs' D' s' → Q a vs' D' → P a s') : wpAny F.M F.A t P E s :=
  wpAny_mono (h s hs) (fun a s' ⟨_, _, h1, h2⟩ => k a s' _ _ h1 h2) fun _ _ x => x.elim
theorem HT.mono {Q' : α → List (Option Value) → Led → Prop} (h : HT F vs D t Q) (k : ∀ a vs' D', Q a vs' D' → Q' a vs' D') : HT F vs D t Q' :=
  fun s hs => h.use hs fun _ _ _ _ h1 h2 => ⟨_, _, h1, k _ _ _ h2⟩
theorem HT.pure {a : α} (h : Q a vs D) : HT F vs D (pure a) Q := fun s hs => wpAny_pure ⟨_, _, hs, h⟩
theorem HT.bind {m : Sem β} {f : β → Sem α} (h : HT F vs D m fun a vs' D' => HT F vs' D' (f a) Q) : HT F vs D (m >>= f) Q :=
  fun s hs => wpAny_bind (h.use hs fun _ _ _ _ h1 h2 => h2 _ h1)
theorem HT.sub (h : HT F vs D' t Q) (hm : ∀ p ∈ D', p ∈ D) (hn : (D.map (·.1)).Nodup → (D'.map (·.1)).Nodup) : HT F vs D t Q :=
  fun s hs => h s ⟨hs.fr, fun p hp => hs.nw p (hm p hp), hn hs.nd, hs.ln, hs.gens, hs.os⟩
theorem HT.perm (h : HT F vs D' t Q) (hp : D.Perm D') : HT F vs D t Q :=
  h.sub (fun _ hm => hp.symm.subset hm) fun hn => (hp.map _).nodup_iff.mp hn
theorem HT.drop {D₁ D₂ : Led} (h : HT F vs (D₁ ++ D₂) t Q) {D₀ : Led} : HT F vs (D₁ ++ D₀ ++ D₂) t Q :=
  h.sub (fun p hp => by simp only [List.mem_append] at hp ⊢; rcases hp with h | h; exact .inl (.inl h); exact .inr h) fun hn => by
    simp only [List.map_append] at hn ⊢
    exact (List.Sublist.append (List.sublist_append_left _ _) (List.Sublist.refl _)).nodup hn
theorem HT.nodup (h : (D.map (·.1)).Nodup → HT F vs D t Q) : HT F vs D t Q := fun s hs => h hs.nd s hs
/-- two entries of one address are one -/
theorem HT.uniq {a : Addr} {o o' : Obj} (h : o = o' → HT F vs D t Q) (h1 : (a, o) ∈ D) (h2 : (a, o') ∈ D) : HT F vs D t Q :=
  fun s hs => h (Option.some.inj ((hs.nw _ h1).1.symm.trans (hs.nw _ h2).1)) s hs
end
section
variable {F : Fx} {vs : List (Option Value)} {D : Led}
variable {Q : Value → List (Option Value) → Led → Prop} {QU : Unit → List (Option Value) → Led → Prop} {QB : Bool → List (Option Value) → Led → Prop} {QF : Flow → List (Option Value) → Led → Prop}
theorem execs_nil_ (h : QF .next vs D) : HT F vs D (execs [] F.env) QF := HT.pure h
theorem execs_cons_ {st rest} (h : HT F vs D (exec st F.env) fun f vs' D' => match f with | .next => HT F vs' D' (execs rest F.env) QF | f => QF f vs' D') : HT F vs D (execs (st :: rest) F.env) QF :=
  fun s hs => wpAny_execs_cons (h.use hs fun f s' vs' D' h1 h2 => by cases f <;> first | exact h2 _ h1 | exact ⟨_, _, h1, h2⟩)
theorem Pass_ {pos} (h : QF .next vs D) : HT F vs D (exec (.Pass pos) F.env) QF := fun s hs => wpAny_Pass ⟨_, _, hs, h⟩
theorem If_ {test body orelse pos} (h : HT F vs D (isTrue test F.env (eval test F.env)) fun b vs' D' => if b then HT F vs' D' (execs body F.env) QF else HT F vs' D' (execs orelse F.env) QF) : HT F vs D (exec (.If test body orelse pos) F.env) QF :=
  fun s hs => wpAny_If (h.use hs fun b s' vs' D' h1 h2 => by
    cases b
    · exact h2 _ h1
    · exact h2 _ h1)
theorem IfExp_' {test body orelse pos} (h : HT F vs D (isTrue test F.env (eval test F.env)) fun b vs' D' => if b then HT F vs' D' (eval body F.env) Q else HT F vs' D' (eval orelse F.env) Q) : HT F vs D (eval (.IfExp test body orelse pos) F.env) Q :=
  fun s hs => IfExp_ (h.use hs fun b s' vs' D' h1 h2 => by
    cases b
    · exact h2 _ h1
    · exact h2 _ h1)
theorem Return_ {e pos} (h : HT F vs D (eval e F.env) fun v => QF (.ret v)) : HT F vs D (exec (.Return (some e) pos) F.env) QF := fun s hs => wpAny_Return_some (h s hs)
theorem BinOp_' {l op r pos} (h : HT F vs D (eval l F.env) fun a vs' D' => HT F vs' D' (eval r F.env) fun b vs'' D'' => HT F vs'' D'' (binaryOp op a b) Q) : HT F vs D (eval (.BinOp l op r pos) F.env) Q :=
  fun s hs => wpAny_BinOp (h.use hs fun _ _ _ _ h1 h2 => h2.use h1 fun _ _ _ _ h3 h4 => h4 _ h3)
theorem Compare_ {l op r pos} (h : HT F vs D (eval l F.env) fun a vs' D' => HT F vs' D' (eval r F.env) fun b vs'' D'' => HT F vs'' D'' (compareOp op a b) Q) (hm : behindInMarks op r = false := by rfl) : HT F vs D (eval (.Compare l [op] [r] pos) F.env) Q :=
  fun s hs => wpAny_Compare1 (h.use hs fun _ _ _ _ h1 h2 => h2.use h1 fun _ _ _ _ h3 h4 => h4 _ h3) hm
theorem isCompare_ {l op r pos whole} (h : HT F vs D (eval l F.env) fun a vs' D' => HT F vs' D' (eval r F.env) fun b vs'' D'' => HT F vs'' D'' (compareOp op a b) fun c vs3 D3 => HT F vs3 D3 (truthy c) QB) (hm : behindInMarks op r = false := by rfl) : HT F vs D (isTrue (.Compare l [op] [r] pos) F.env whole) QB :=
  fun s hs => wpAny_isTrue_Compare1 (h.use hs fun _ _ _ _ h1 h2 => h2.use h1 fun _ _ _ _ h3 h4 => h4.use h3 fun _ _ _ _ h5 h6 => h6 _ h5) hm
theorem isNot_ {x pos whole} (h : HT F vs D (isTrue x F.env (eval x F.env)) fun c => QB (!c)) : HT F vs D (isTrue (.UnaryOp .Not x pos) F.env whole) QB := fun s hs => isTrue_not (h s hs)
theorem isAnd0_ {pos whole} (h : QB true vs D) : HT F vs D (isTrue (.BoolOp .And [] pos) F.env whole) QB := fun s hs => isTrue_and_nil ⟨_, _, hs, h⟩
theorem isOr0_ {pos whole} (h : QB false vs D) : HT F vs D (isTrue (.BoolOp .Or [] pos) F.env whole) QB := fun s hs => isTrue_or_nil ⟨_, _, hs, h⟩
theorem isAnd_ {x rest pos whole} (h : HT F vs D (isTrue x F.env (eval x F.env)) fun c vs' D' => if c then HT F vs' D' (isTrue (.BoolOp .And rest pos) F.env whole) QB else QB false vs' D') : HT F vs D (isTrue (.BoolOp .And (x :: rest) pos) F.env whole) QB :=
  fun s hs => isTrue_and (h.use hs fun c s' vs' D' h1 h2 => by
    cases c
    · exact ⟨_, _, h1, h2⟩
    · exact h2 _ h1)
theorem isOr_ {x rest pos whole} (h : HT F vs D (isTrue x F.env (eval x F.env)) fun c vs' D' => if c then QB true vs' D' else HT F vs' D' (isTrue (.BoolOp .Or rest pos) F.env whole) QB) : HT F vs D (isTrue (.BoolOp .Or (x :: rest) pos) F.env whole) QB :=
  fun s hs => isTrue_or (h.use hs fun c s' vs' D' h1 h2 => by
    cases c
    · exact h2 _ h1
    · exact ⟨_, _, h1, h2⟩)
theorem isPlain_ {e whole} (h : HT F vs D whole fun v vs' D' => HT F vs' D' (truthy v) QB) (he : isTrue e F.env whole = (do let v ← whole; standAt e.pos; holding [v] (truthy v)) := by rfl) : HT F vs D (isTrue e F.env whole) QB :=
  fun s hs => isTrue_plain (h.use hs fun _ _ _ _ h1 h2 => h2 _ h1) he
theorem And_ {e₁ e₂ rest pos} (h : HT F vs D (eval e₁ F.env) fun v vs' D' => HT F vs' D' (truthy v) fun c vs'' D'' => if c then HT F vs'' D'' (eval (.BoolOp .And (e₂ :: rest) pos) F.env) Q else Q v vs'' D'') : HT F vs D (eval (.BoolOp .And (e₁ :: e₂ :: rest) pos) F.env) Q :=
  fun s hs => BoolOp_and (h.use hs fun _ _ _ _ h1 h2 => h2.use h1 fun c s' vs' D' h3 h4 => by
    cases c
    · exact ⟨_, _, h3, h4⟩
    · exact h4 _ h3)
theorem And1_ {e pos} (h : HT F vs D (eval e F.env) Q) : HT F vs D (eval (.BoolOp .And [e] pos) F.env) Q := fun s hs => BoolOp_one (h s hs)
theorem truthy_bool_ {b : Bool} (h : QB b vs D) : HT F vs D (truthy (.bool b)) QB := fun s hs => wpAny_truthy_bool ⟨_, _, hs, h⟩
theorem truthy_none_ (h : QB false vs D) : HT F vs D (truthy .none) QB := fun s hs => truthy_none ⟨_, _, hs, h⟩
theorem is_none_ {v : Value} (h : Q (.bool (v == .none)) vs D) : HT F vs D (compareOp .Is v .none) Q := fun s hs => is_none ⟨_, _, hs, h⟩
theorem isNot_none_ {v : Value} (h : Q (.bool (!(v == .none))) vs D) : HT F vs D (compareOp .IsNot v .none) Q := fun s hs => isNot_none ⟨_, _, hs, h⟩
theorem St.tok {s : Shared} (hs : St F vs D s) {k : Nat} : St F vs D { s with toks := k } := ⟨hs.fr, hs.nw, hs.nd, hs.ln, hs.gens, hs.os⟩
theorem Int_ {i k pos} (h : ∀ t, Q (.int i t) vs D) : HT F vs D (eval (.Constant (.int i) k pos) F.env) Q := fun s hs => wpAny_Constant_int ⟨_, _, hs.tok, h _⟩
theorem Bool_ {b k pos} (h : Q (.bool b) vs D) : HT F vs D (eval (.Constant (.bool b) k pos) F.env) Q := fun s hs => wpAny_Constant_bool ⟨_, _, hs, h⟩
theorem None_ {k pos} (h : Q .none vs D) : HT F vs D (eval (.Constant .none k pos) F.env) Q := fun s hs => wpAny_Constant_none ⟨_, _, hs, h⟩
theorem Unary_ {op x pos} (h : HT F vs D (eval x F.env) fun v vs' D' => HT F vs' D' (unaryOp op v) Q) : HT F vs D (eval (.UnaryOp op x pos) F.env) Q := fun s hs => UnaryOp_ (h.use hs fun _ _ _ _ h1 h2 => h2 _ h1)
theorem Expr_ {e pos} (h : HT F vs D (eval e F.env) fun v vs' D' => (∀ a, v ≠ .ref a) ∧ QF .next vs' D') (hi : interactive F.env = false := by rfl) (hs : swapsWith e none pos.line F.env = pure false := by rfl) : HT F vs D (exec (.Expr e pos) F.env) QF :=
  fun s hs' => wpAny_Expr (h.use hs' fun v s' vs' D' h1 h2 => by cases v <;> first | exact ⟨_, _, h1, h2.2⟩ | exact (h2.1 _ rfl).elim) hi hs
theorem AssignN_ {x pos' value pos} (h : HT F vs D (eval value F.env) fun v vs' D' => HT F vs' D' (storeName F.env x v) fun _ => QF .next) (hs : swapsWith value (some (.Name x pos')) pos.line F.env = pure false := by rfl) : HT F vs D (exec (.Assign [.Name x pos'] value pos) F.env) QF :=
  fun s hs' => wpAny_Assign_Name (h.use hs' fun _ _ _ _ h1 h2 => h2.use h1 fun _ _ _ _ h3 h4 => ⟨_, _, h3, h4⟩) hs
theorem AugN_ {x pos' op value pos} (h : HT F vs D (loadName F.env x) fun old vs' D' => HT F vs' D' (eval value F.env) fun v vs'' D'' => HT F vs'' D'' (inplaceOp op old v) fun r vs3 D3 => HT F vs3 D3 (storeName F.env x r) fun _ => QF .next) : HT F vs D (exec (.AugAssign (.Name x pos') op value pos) F.env) QF :=
  fun s hs => wpAny_AugAssign_Name (h.use hs fun _ _ _ _ h1 h2 => h2.use h1 fun _ _ _ _ h3 h4 => h4.use h3 fun _ _ _ _ h5 h6 => h6.use h5 fun _ _ _ _ h7 h8 => ⟨_, _, h7, h8⟩)
theorem AugS_ {o i value tpos pos op} (h : HT F vs D (eval o F.env) fun ov vs1 D1 => HT F vs1 D1 (eval i F.env) fun iv vs2 D2 => HT F vs2 D2 (getItem ov iv) fun old vs3 D3 => HT F vs3 D3 (eval value F.env) fun v vs4 D4 => HT F vs4 D4 (inplaceOp op old v) fun new vs5 D5 => HT F vs5 D5 (setItem ov iv new) fun _ => QF .next)
    (hi : ∀ ov iv new, augStore i ov iv new = (do holding [new, ov, iv] (setItem ov iv new); release [new, ov, iv] []; Pure.pure .next) := by intros; rfl) : HT F vs D (exec (.AugAssign (.Subscript o i tpos) op value pos) F.env) QF :=
  fun s hs => wpAny_AugAssign_SubscriptAny (h.use hs fun _ _ _ _ h1 h2 => h2.use h1 fun _ _ _ _ h3 h4 => h4.use h3 fun _ _ _ _ h5 h6 => h6.use h5 fun _ _ _ _ h7 h8 => h8.use h7 fun _ _ _ _ h9 ha => ha.use h9 fun _ _ _ _ hb hc => ⟨_, _, hb, hc⟩) hi
theorem AugA_ {o value attr tpos pos op} (h : HT F vs D (eval o F.env) fun ov vs1 D1 => HT F vs1 D1 (getAttr ov attr true) fun old vs3 D3 => HT F vs3 D3 (eval value F.env) fun v vs4 D4 => HT F vs4 D4 (inplaceOp op old v) fun new vs5 D5 => HT F vs5 D5 (setAttr ov attr new) fun _ => QF .next) : HT F vs D (exec (.AugAssign (.Attribute o attr tpos) op value pos) F.env) QF :=
  fun s hs => wpAny_AugAssign_AttributeAny (h.use hs fun _ _ _ _ h1 h2 => h2.use h1 fun _ _ _ _ h5 h6 => h6.use h5 fun _ _ _ _ h7 h8 => h8.use h7 fun _ _ _ _ h9 ha => ha.use h9 fun _ _ _ _ hb hc => ⟨_, _, hb, hc⟩)
theorem Attr_ {value : PySem.Expr} {attr : Str} {pos : Pos} (h : HT F vs D (eval value F.env) fun o vs' D' => HT F vs' D' (getAttr o attr true) Q)
    (he : eval (.Attribute value attr pos) F.env = (do
      let o ← eval value F.env
      standAt pos.atName
      let r ← holding [o] (getAttr o attr true)
      letTemporaryGo value o r
      Pure.pure r) := by with_unfolding_all rfl) : HT F vs D (eval (.Attribute value attr pos) F.env) Q :=
  fun s hs => Attribute_any_ (h.use hs fun _ _ _ _ h1 h2 => h2 _ h1) he
theorem local_ (ok : F.Ok) {x pos v} (ha : At F.xs vs x v) (h : Q v vs D) (hd : (x == ("__debug__" : Str)) = false := by decide) : HT F vs D (eval (.Name x pos) F.env) Q :=
  fun s hs => nameX_L hs.fr (ha.lay ok.nd) ⟨_, _, hs, h⟩ ok.kind (ok.loc _ ha.mem) hd
theorem load_ (ok : F.Ok) {x v} (ha : At F.xs vs x v) (h : Q v vs D) (hcl : F.cl = [] := by rfl) : HT F vs D (loadName F.env x) Q := by
  obtain ⟨w, g, L, A, A₀, base, outer, qual, scope, f, cd, xs, gens, os, lv, cl⟩ := F
  cases hcl
  exact fun s hs => ldn hs.fr (ha.lay ok.nd) ⟨_, _, hs, h⟩ ok.kind (ok.loc _ ha.mem)
theorem store_ (ok : F.Ok) {x v vs'} (hp : Put F.xs vs x v vs') (h : QU () vs' D) : HT F vs D (storeName F.env x v) QU :=
  fun s hs => storeX_L hs.fr hs.nw (fun h' F' N' => ⟨vs', D, ⟨by rw [← hp.lay ok.nd]; exact F', N', hs.nd, hp.len.trans hs.ln, hs.gens, hs.os⟩, h⟩) ok.kind (ok.loc _ hp.mem)
theorem global_ (ok : F.Ok) {x pos v} (e : nsIn F.K mainGlobals x = some (some v)) (h : Q v vs D) (hx : F.env.kindOf x = some .globalImplicit := by rfl) (hd : (x == ("__debug__" : Str)) = false := by decide) (hcl : F.cl = [] := by rfl) : HT F vs D (eval (.Name x pos) F.env) Q := by
  obtain ⟨w, g, L, A, A₀, base, outer, qual, scope, f, cd, xs, gens, os, lv, cl⟩ := F
  cases hcl
  intro s hs
  obtain ⟨_, _, _, T⟩ := ok.T
  exact name_K hs.fr ok.K (topRead_of T) e ⟨_, _, hs, h⟩ ok.kind hx hd
theorem builtin_ (ok : F.Ok) {x pos v} (e : nsIn F.K mainGlobals x = some none) (hv : bootBuiltins x = some v) (hn : x ≠ "__name__") (h : Q v vs D) (hx : F.env.kindOf x = some .globalImplicit := by rfl) (hd : (x == ("__debug__" : Str)) = false := by decide) (hcl : F.cl = [] := by rfl) : HT F vs D (eval (.Name x pos) F.env) Q := by
  obtain ⟨w, g, L, A, A₀, base, outer, qual, scope, f, cd, xs, gens, os, lv, cl⟩ := F
  cases hcl
  intro s hs
  obtain ⟨_, _, _, T⟩ := ok.T
  exact name_B hs.fr ok.K (topRead_of T) e hv hn ⟨_, _, hs, h⟩ ok.kind hx hd
end
-- L2
variable {α β : Type}
inductive Up (a : Addr) (o o' : Obj) : Led → Led → Prop
  | head {r} : Up a o o' ((a, o) :: r) ((a, o') :: r)
  | tail {p r r'} : Up a o o' r r' → Up a o o' (p :: r) (p :: r')
theorem Up.keys {a o o' D D'} (h : Up a o o' D D') : D'.map (·.1) = D.map (·.1) := by
  induction h with
  | head => rfl
  | tail _ ih => simp [ih]
theorem Up.mem {a o o' D D'} (h : Up a o o' D D') : (a, o) ∈ D := by
  induction h with
  | head => exact .head _
  | tail _ ih => exact .tail _ ih
theorem Up.upd {a o o' D D'} (h : Up a o o' D D') (nd : (D.map (·.1)).Nodup) : Upd a o o' D D' := by
  induction h with
  | @head r =>
    refine .head fun p hp e => ?_
    exact (List.nodup_cons.mp nd).1 (List.mem_map.mpr ⟨p, hp, e⟩)
  | @tail p r r' h ih =>
    have hn := List.nodup_cons.mp nd
    exact .tail (fun e => hn.1 (List.mem_map.mpr ⟨_, h.mem, e.symm⟩)) (ih hn.2)
theorem Up.app {a o o' D D'} (h : Up a o o' D D') (E : Led) : Up a o o' (D ++ E) (D' ++ E) := by
  induction h with
  | head => exact .head
  | tail _ ih => exact .tail ih
section
variable {F : Fx} {vs : List (Option Value)} {D D' : Led} {s : Shared}
variable {Q : Value → List (Option Value) → Led → Prop} {QU : Unit → List (Option Value) → Led → Prop} {QB : Bool → List (Option Value) → Led → Prop} {QF : Flow → List (Option Value) → Led → Prop} {QL : List Value → List (Option Value) → Led → Prop} {QM : Value × List Value → List (Option Value) → Led → Prop}
theorem St.lt (hs : St F vs D s) {p : Addr × Obj} (hp : p ∈ D) : p.1 < s.heap.objs.size := Heap.lt_size (hs.nw p hp).1
theorem St.cons (hs : St F vs D s) {a : Addr} {o : Obj} {h' : Heap} (F' : Fr F.g F.L h' (lay F.xs vs)) (N' : News F.g F.L h' ((a, o) :: D)) (hl : ∀ p ∈ D, p.1 ≠ a) {k : Nat} : St F vs ((a, o) :: D) { s with heap := h', toks := k } :=
  ⟨F', N', List.nodup_cons.mpr ⟨fun hm => by obtain ⟨p, hp, e⟩ := List.mem_map.mp hm; exact hl p hp e, hs.nd⟩, hs.ln, hs.gens, hs.os⟩
theorem St.ne (hs : St F vs D s) {p : Addr × Obj} (hp : p ∈ D) : p.1 ≠ s.heap.objs.size := Nat.ne_of_lt (hs.lt hp)
theorem St.push (hs : St F vs D s) (o : Obj) (hf : o.isFreed = false := by rfl) {k : Nat} : St F vs ((s.heap.objs.size, o) :: D) { s with heap := s.heap.push o, toks := k } :=
  hs.cons (hs.fr.push o) (hs.nw.push hs.fr o hf) (fun p hp => hs.ne hp)
theorem St.turn (hs : St F vs D s) {a o o'} (hu : Up a o o' D D') {h' : Heap} (F' : Fr F.g F.L h' (lay F.xs vs)) (N' : News F.g F.L h' D') {k : Nat} : St F vs D' { s with heap := h', toks := k } :=
  ⟨F', N', by rw [hu.keys]; exact hs.nd, hs.ln, hs.gens, hs.os⟩
theorem St.upd (hs : St F vs D s) {a o o'} (hu : Up a o o' D D') {h' : Heap} (hb : Heap.SameBut a s.heap h') (ho : h'.get? a = some o') {k : Nat} : St F vs D' { s with heap := h', toks := k } := by
  obtain ⟨pre, post, rfl, rfl, h1, h2⟩ := (hu.upd hs.nd).split
  have z := hs.nw (a, o) (List.mem_append.mpr (.inr (.head _)))
  exact hs.turn hu (hs.fr.change hb z.2.1 z.2.2) (news_set hs.nw h1 h2 hb ho)
theorem St.get (hs : St F vs D s) {a o} (h : (a, o) ∈ D) : s.heap.get? a = some o := (hs.nw _ h).1
-- displays and arguments
theorem items0_ {pos : Pos} (h : QL [] vs D) : HT F vs D (spliced (backTo pos (starEach [] F.env))) QL := fun s hs => wpAny_items_nil ⟨_, _, hs, h⟩
theorem items_ {pos : Pos} {e rest} (h : HT F vs D (eval e F.env) fun v vs' D' => HT F vs' D' (spliced (backTo pos (starEach rest F.env))) fun l => QL (v :: l)) (he : starEach (e :: rest) F.env = (false, eval e F.env) :: starEach rest F.env := by rfl) :
    HT F vs D (spliced (backTo pos (starEach (e :: rest) F.env))) QL := fun s hs => wpAny_items_cons (h.use hs fun _ _ _ _ h1 h2 => h2.use h1 fun _ _ _ _ h3 h4 => ⟨_, _, h3, h4⟩) he
theorem newList_ {l : List Value} (h : ∀ a, (∀ p ∈ D, p.1 ≠ a) → Q (.ref a) vs ((a, W.listOf l.toArray 0) :: D)) (hz : l.length ≤ sizeLine := by decide) : HT F vs D (newList l) Q :=
  fun s hs => newList_K hs.fr hs.nw (fun a h' F' N' hl => ⟨_, _, hs.cons F' N' (fun p hp => Nat.ne_of_lt (hl p hp)), h a (fun p hp => Nat.ne_of_lt (hl p hp))⟩) hz
noncomputable abbrev tupOf (l : List Value) : Obj := { cls := .type "tuple", data := .seq l.toArray }
theorem newTuple_ {l : List Value} (h : ∀ a, (∀ p ∈ D, p.1 ≠ a) → Q (.ref a) vs ((a, tupOf l) :: D)) (hz : l.length ≤ sizeLine := by decide) : HT F vs D (newTuple l) Q :=
  fun s hs => newTuple_N hs.fr hs.nw (fun h' F' N' => ⟨_, _, hs.cons F' N' (fun p hp => hs.ne hp), h _ fun p hp => hs.ne hp⟩) hz
theorem List_' {elts pos} (h : HT F vs D (spliced (backTo pos (starEach elts F.env))) fun l vs' D' => HT F vs' D' (newList l) Q) : HT F vs D (eval (.List elts pos) F.env) Q := fun s hs => List_ (h.use hs fun _ _ _ _ h1 h2 => h2 _ h1)
theorem Tuple_' {elts k pos} (h : HT F vs D (spliced (backTo pos (starEach elts F.env))) fun l vs' D' => HT F vs' D' (newTuple l) Q) : HT F vs D (eval (.Tuple elts k pos) F.env) Q := fun s hs => Tuple_ (h.use hs fun _ _ _ _ h1 h2 => h2 _ h1)
-- lists
theorem len_list_ {l : Addr} {its : Array Value} {n : Nat} (hm : (l, W.listOf its n) ∈ D) (hf : its.size < 2 ^ 62) (h : ∀ t, Q (.int its.size t) vs D) : HT F vs D (call (.builtin "len") [.ref l]) Q :=
  fun s hs => len_list (PySem.IsL.isList (n := n) (hs.get hm)) (by omega) ⟨_, _, hs.tok, h _⟩
theorem item_list_ {l : Addr} {its : List Value} {n : Nat} {k : Int} {u : Tok} {x : Value} (hm : (l, W.listOf its.toArray n) ∈ D) (h0 : 0 ≤ k) (hf : k < 2 ^ 62) (hx : its[k.toNat]? = some x) (h : Q x vs D) : HT F vs D (getItem (.ref l) (.int k u)) Q :=
  fun s hs => wpAny_getItem_list (PySem.IsL.isList (n := n) (hs.get hm)) h0 (by omega) (by simpa using hx) ⟨_, _, hs, h⟩
theorem item_tup_ {l : Addr} {its : List Value} {k : Int} {u : Tok} {x : Value} {j : Nat} (hm : (l, tupOf its) ∈ D) (hj : k = j) (hf : k < 2 ^ 62) (hx : its[j]? = some x) (h : Q x vs D) : HT F vs D (getItem (.ref l) (.int k u)) Q := by
  subst hj
  intro s hs
  have hjl : j < its.length := (List.getElem?_eq_some_iff.mp hx).1
  refine getItem_tuple (items := its.toArray) ⟨_, hs.get hm, rfl, _, rfl⟩ (by omega) (by omega) (j := j) ?_ (by simpa using hx) ⟨_, _, hs, h⟩
  unfold seqIndex?
  simp
  omega
theorem setItem_list_ {l : Addr} {its : List Value} {n : Nat} {k : Int} {u : Tok} {v : Value} (hu : Up l (W.listOf its.toArray n) (W.listOf (its.set k.toNat v).toArray n) D D') (h0 : 0 ≤ k) (hf : k < 2 ^ 62) (hn : k < its.length) (h : QU () vs D') : HT F vs D (setItem (.ref l) (.int k u) v) QU := by
  intro s hs
  have ho := hs.get hu.mem
  refine ki_setAt ho h0 (by omega) (by simpa using hn) ⟨_, _, hs.upd hu (Heap.SameBut.update ..) ?_ (k := s.toks), h⟩
  have q := PySem.IsL.update ho (·.setIfInBounds k.toNat v)
  have e1 : its.toArray.setIfInBounds k.toNat v = (its.set k.toNat v).toArray := by simp
  have e2 : (if (its.toArray.setIfInBounds k.toNat v).size == its.toArray.size then n else n + 1) = n := by simp
  simp only [e2] at q
  rw [e1] at q
  exact q
theorem append_ {l : Addr} {its : List Value} {n : Nat} {x : Value} (hu : Up l (W.listOf its.toArray n) (W.listOf (its ++ [x]).toArray (n + 1)) D D') (hz : its.length ≤ sizeLine) (h : Q .none vs D') : HT F vs D (call (.builtin "list.append") [.ref l, x]) Q := by
  intro s hs
  have e : its.toArray.push x = (its ++ [x]).toArray := by simp
  refine append_K (its := its.toArray) (n := n) hs.fr hs.nw (by rw [e]; exact hu.upd hs.nd) (fun h' F' N' => ⟨_, _, hs.turn hu F' N' (k := s.toks), h⟩) (by simpa using hz)
theorem pop_ {l : Addr} {us : List Value} {ns : List Int} {n : Nat} (hu : Up l (W.listOf us.toArray n) (W.listOf us.dropLast.toArray (n + 1)) D D') (hi : IntsAre us ns) (hne : 0 < us.length) (hz : us.length ≤ sizeLine) (h : ∀ t, Q (.int (ns.getLastD 0) t) vs D') : HT F vs D (call (.builtin "list.pop") [.ref l]) Q :=
  fun s hs => kpa_pop hs.fr hs.nw (hu.upd hs.nd) hi hne hz fun h' t F' N' _ => ⟨_, _, hs.turn hu F' N' (k := s.toks), h t⟩
theorem truthy_list_ {l : Addr} {its : Array Value} {n : Nat} (hm : (l, W.listOf its n) ∈ D) (hf : its.size < 2 ^ 62) (h : QB (!its.isEmpty) vs D) : HT F vs D (truthy (.ref l)) QB :=
  fun s hs => wpAny_truthy_list (PySem.IsL.isList (n := n) (hs.get hm)) (by omega) ⟨_, _, hs.tok, h⟩
theorem Sub_ {value slice pos} (h : HT F vs D (eval value F.env) fun o vs' D' => HT F vs' D' (eval slice F.env) fun i vs'' D'' => HT F vs'' D'' (subscriptTail value slice o i) Q) : HT F vs D (eval (.Subscript value slice pos) F.env) Q :=
  fun s hs => Subscript_ (h.use hs fun _ _ _ _ h1 h2 => h2.use h1 fun _ _ _ _ h3 h4 => h4 _ h3)
theorem tail_list_ {value slice : PySem.Expr} {l : Addr} {its : List Value} {n : Nat} {k : Int} {u : Tok} {x : Value} (hm : (l, W.listOf its.toArray n) ∈ D) (h0 : 0 ≤ k) (hf : k < 2 ^ 62) (hx : its[k.toNat]? = some x) (h : Q x vs D)
    (hs : subscripted slice false (.ref l) (.int k u) = operate [.ref l, .int k u] (getItem (.ref l) (.int k u)) := by with_unfolding_all rfl) : HT F vs D (subscriptTail value slice (.ref l) (.int k u)) Q :=
  fun s hs' => tail_any (PySem.Heap.IsList.typeIs (PySem.IsL.isList (n := n) (hs'.get hm))) slot_list_getitem.lookup (item_list_ hm h0 hf hx h s hs') hs
theorem tail_tup_ {value slice : PySem.Expr} {l : Addr} {its : List Value} {k : Int} {u : Tok} {x : Value} {j : Nat} (hm : (l, tupOf its) ∈ D) (hj : k = j) (hf : k < 2 ^ 62) (hx : its[j]? = some x) (h : Q x vs D)
    (hs : subscripted slice false (.ref l) (.int k u) = operate [.ref l, .int k u] (getItem (.ref l) (.int k u)) := by with_unfolding_all rfl) : HT F vs D (subscriptTail value slice (.ref l) (.int k u)) Q :=
  fun s hs' => tail_any (IsTup.typeIs (items := its.toArray) ⟨_, hs'.get hm, rfl, _, rfl⟩) slot_tuple_getitem.lookup (item_tup_ hm hj hf hx h s hs') hs
-- attributes
theorem get_ (ok : F.Ok) {x C dx : Addr} {es : List DictEntry} {n : Nat} {name : Str} {v : Value} {attr : Option Value} {expr : Bool} (h1 : (x, instObj C dx) ∈ D) (h2 : (dx, dictOf es n) ∈ D) (pg : plainGet F.K C name = true) (hd : hasDictIn F.K C = true) (fi : findIn F.K (.ref C) name = some attr) (ng : noGet F.K attr = true)
    (g : getL name es = some (some v)) (hh : handedIn v = true) (h : Q v vs D) : HT F vs D (getAttr (.ref x) name expr) Q :=
  fun s hs => get_own hs.fr ok.K (InstAt.of_news hs.nw h1 h2) pg hd fi ng g hh ⟨_, _, hs.tok, h⟩
theorem set_ (ok : F.Ok) {x C dx : Addr} {es es' : List DictEntry} {n n' : Nat} {name : Str} {v : Value} (h1 : (x, instObj C dx) ∈ D) (hu : Up dx (dictOf es n) (dictOf es' n') D D')
    (f1 : findIn F.K (.ref C) (Str.ofString "__setattr__") = some (some (.builtin "object.__setattr__"))) (f2 : plainOver F.K C = true) (f3 : takerIn F.K C name = some none) (f4 : hasDictIn F.K C = true) (g : (getL name es).isSome = true)
    (hp : ∀ t, (putL name (PyData.keyHash F.w.params name) (.str name t) v es, putN name es n) = (es', n')) (hl : es'.length ≤ 1000) (h : QU () vs D') : HT F vs D (setAttr (.ref x) name v) QU :=
  fun s hs => set_dict hs.fr ok.K hs.nw (InstAt.of_news hs.nw h1 hu.mem) rfl f1 f2 f3 f4 g (hp _) (hu.upd hs.nd) hl fun h' F' N' => ⟨_, _, hs.turn hu F' N', h⟩
theorem meth_ (ok : F.Ok) {x C dx f : Addr} {es : List DictEntry} {n : Nat} {name : Str} {pl : Sem Bool} (h1 : (x, instObj C dx) ∈ D) (h2 : (dx, dictOf es n) ∈ D) (pg : plainGet F.K C name = true) (fi : findIn F.K (.ref C) name = some (some (.ref f))) (hf : isFn F.K (.ref f) = true)
    (g : getL name es = some none) (h : QM (.ref f, [.ref x]) vs D) : HT F vs D (getMethod (.ref x) name pl) QM :=
  fun s hs => method_inst hs.fr ok.K (InstAt.of_news hs.nw h1 h2) pg fi hf g ⟨_, _, hs, h⟩
theorem mcall_ {o : PySem.Expr} {name : Str} {apos pos : Pos} {args : List PySem.Expr} {pl : Sem Bool} (h : HT F vs D (eval o F.env) fun ov vs1 D1 => HT F vs1 D1 (getMethod ov name pl) fun fx vs2 D2 => HT F vs2 D2 (callWith pos fx.1 fx.2 (backTo pos (starEach args F.env)) []) Q)
    (he : eval ((o.Attribute name apos).Call args [] pos) F.env = (do
          let ov ← eval o F.env
          standAt apos.atName
          let (f, first) ← holding [ov] (getMethod ov name pl)
          callWith pos f first (backTo pos (starEach args F.env)) (backToKw pos (keywordEach [] F.env))) := by with_unfolding_all rfl) :
    HT F vs D (eval ((o.Attribute name apos).Call args [] pos) F.env) Q :=
  fun s hs => methodCall_KW (kws := []) (h.use hs fun _ _ _ _ h1 h2 => h2.use h1 fun _ _ _ _ h3 h4 => h4 _ h3) he
theorem call_ {id : Str} {p pos : Pos} {args : List PySem.Expr} (h : HT F vs D (eval (.Name id p) F.env) fun f vs1 D1 => HT F vs1 D1 (callWith pos f [] (backTo pos (starEach args F.env)) []) Q) : HT F vs D (eval (.Call (.Name id p) args [] pos) F.env) Q :=
  fun s hs => wpAny_Call_NameR (h.use hs fun _ _ _ _ h1 h2 => h2 _ h1)
/-- a call whose callee is kept by the text -/
theorem cw_ (ok : F.Ok) {f : Value} {first : List Value} {pos : Pos} {e : PySem.Expr} {rest : List PySem.Expr} (hk : keepIn F.K f = true) (h : HT F vs D (spliced (backTo pos (starEach (e :: rest) F.env))) fun l vs' D' => HT F vs' D' (call f (first ++ l)) Q)
    (h1 : starEach (e :: rest) F.env = (false, eval e F.env) :: starEach rest F.env := by rfl) (h2 : ((backTo pos (starEach rest F.env)).any (·.1)) = false := by rfl) : HT F vs D (callWith pos f first (backTo pos (starEach (e :: rest) F.env)) []) Q :=
  fun s hs => callWith_K (h₀ := F.g) ok.K hk (h.use hs fun _ _ _ _ h3 h4 => ⟨ok.K.keeps h3.fr.keep, h4 _ h3⟩) h1 h2
theorem cw0_ (ok : F.Ok) {f : Value} {first : List Value} {pos : Pos} (hk : keepIn F.K f = true) (h : HT F vs D (call f (first ++ [])) Q) : HT F vs D (callWith pos f first (backTo pos (starEach [] F.env)) []) Q :=
  fun s hs => callWith_K0 (K := F.K) (ok.K.keeps hs.fr.keep) hk (h s hs)
theorem cwB_ {id : String} {first : List Value} {pos : Pos} {e : PySem.Expr} {rest : List PySem.Expr} (h : HT F vs D (spliced (backTo pos (starEach (e :: rest) F.env))) fun l vs' D' => HT F vs' D' (call (.builtin id) (first ++ l)) Q)
    (h1 : starEach (e :: rest) F.env = (false, eval e F.env) :: starEach rest F.env := by rfl) (h2 : ((backTo pos (starEach rest F.env)).any (·.1)) = false := by rfl) : HT F vs D (callWith pos (.builtin id) first (backTo pos (starEach (e :: rest) F.env)) []) Q := by
  rw [h1] at h ⊢
  exact fun s hs => callWith_builtin (by show (false || (backTo pos (starEach rest F.env)).any (·.1)) = false; rw [h2]; rfl) (evalArgs_plain (h.use hs fun _ _ _ _ h1 h2 => h2 _ h1))
theorem cwB0_ {id : String} {first : List Value} {pos : Pos} (h : HT F vs D (call (.builtin id) (first ++ [])) Q) : HT F vs D (callWith pos (.builtin id) first (backTo pos (starEach [] F.env)) []) Q :=
  fun s hs => callWith_builtin rfl (evalArgs_nil3 (h s hs))
theorem cwT_ {T : String} {first : List Value} {pos : Pos} {e : PySem.Expr} {rest : List PySem.Expr} (h : HT F vs D (spliced (backTo pos (starEach (e :: rest) F.env))) fun l vs' D' => HT F vs' D' (call (.type T) (first ++ l)) Q)
    (h1 : starEach (e :: rest) F.env = (false, eval e F.env) :: starEach rest F.env := by rfl) (h2 : ((backTo pos (starEach rest F.env)).any (·.1)) = false := by rfl) : HT F vs D (callWith pos (.type T) first (backTo pos (starEach (e :: rest) F.env)) []) Q := by
  rw [h1] at h ⊢
  exact fun s hs => PySem.callWith_type (by show (false || (backTo pos (starEach rest F.env)).any (·.1)) = false; rw [h2]; rfl) (evalArgs_plain (h.use hs fun _ _ _ _ h1 h2 => h2 _ h1))
theorem appendM_ {l : Addr} {its : Array Value} {n : Nat} {pl : Sem Bool} (hm : (l, W.listOf its n) ∈ D) (h : QM (.builtin "list.append", [.ref l]) vs D) : HT F vs D (getMethod (.ref l) "append" pl) QM :=
  fun s hs => getMethod_append_N hs.nw hm ⟨_, _, hs, h⟩
theorem bitM_ {a : Int} {t : Tok} {pl : Sem Bool} (h : QM (.builtin "int.bit_length", [.int a t]) vs D) : HT F vs D (getMethod (.int a t) (Str.ofString "bit_length") pl) QM := fun s hs => getMethod_int_bit_length ⟨_, _, hs, h⟩
theorem bit_ {a : Int} {t : Tok} (h : ∀ t', Q (.int (Builtin.Int.intBits a) t') vs D) : HT F vs D (call (.builtin "int.bit_length") [.int a t]) Q := fun s hs => call_int_bit_length ⟨_, _, hs.tok, h _⟩
end
-- L3
section
variable {F : Fx} {vs : List (Option Value)} {D D' : Led} {s : Shared}
variable {Q : Value → List (Option Value) → Led → Prop} {QU : Unit → List (Option Value) → Led → Prop} {QB : Bool → List (Option Value) → Led → Prop} {QF : Flow → List (Option Value) → Led → Prop}
theorem St.left {E : Led} (hs : St F vs (D ++ E) s) : St F vs D s :=
  ⟨hs.fr, fun p hp => hs.nw p (List.mem_append.mpr (.inl hp)), by have := hs.nd; rw [List.map_append] at this; exact (List.nodup_append.mp this).1, hs.ln, hs.gens, hs.os⟩
theorem St.swap {E : Led} (hs : St F vs (E ++ D) s) : St F vs (D ++ E) s :=
  ⟨hs.fr, fun p hp => hs.nw p (by simp only [List.mem_append] at hp ⊢; exact hp.symm), (List.perm_append_comm.map _).nodup_iff.mp hs.nd, hs.ln, hs.gens, hs.os⟩
theorem While_ {test body pos} (I : Nat → List (Option Value) → Led → Prop)
    (turn : ∀ n vs D, I n vs D → HT F vs D (isTrue test F.env (eval test F.env)) fun b vs1 D1 => if b then HT F vs1 D1 (execs body F.env) fun fl vs2 D2 => match fl with
        | .next | .cont => ∃ m, m < n ∧ I m vs2 D2
        | .brk => QF .next vs2 D2
        | .ret v => QF (.ret v) vs2 D2
      else QF .next vs1 D1) (n : Nat) (h : I n vs D) : HT F vs D (exec (.While test body [] pos) F.env) QF := by
  intro s hs
  refine wpAny_While (codeAny_mono (codeAny_whileLoop (fun n s => ∃ vs D, I n vs D ∧ St F vs D s) (R := fun r s' => match r with | .ok f => ∃ vs' D', St F vs' D' s' ∧ QF f vs' D' | .error e => False) ?_ n ⟨vs, D, h, hs⟩) fun r s' hr => ?_)
  · rintro n s ⟨vs, D, hI, hs⟩
    refine (turn n vs D hI).use hs fun b s1 vs1 D1 h1 h2 => ?_
    cases b with
    | true =>
      refine HT.use h2 h1 fun fl s2 vs2 D2 h3 h4 => ?_
      cases fl with
      | next => obtain ⟨m, hm, hI'⟩ := h4; exact ⟨m, hm, _, _, hI', h3⟩
      | cont => obtain ⟨m, hm, hI'⟩ := h4; exact ⟨m, hm, _, _, hI', h3⟩
      | brk => exact ⟨_, _, h3, h4⟩
      | ret v => exact ⟨_, _, h3, h4⟩
    | false => exact wpAny_execs_nil ⟨_, _, h1, h2⟩
  · cases r with
    | ok f => exact hr
    | error e => exact hr.elim
/-- how a turn's end is told -/
noncomputable def Turn (I : List (Option Value) → Led → Prop) (QF : Flow → List (Option Value) → Led → Prop) (E : Led) (fl : Flow) (vs : List (Option Value)) (D : Led) : Prop := match fl with
  | .next | .cont => ∃ D3, D = D3 ++ E ∧ I vs D3
  | .brk => ∃ D3, D = D3 ++ E ∧ QF .next vs D3
  | .ret r => ∃ D3, D = D3 ++ E ∧ QF (.ret r) vs D3
theorem for_core {target : PySem.Expr} {it : Addr} {body : List Stmt} (n : Nat) (io : Nat → Obj → Prop) (val : Nat → Value → Prop) (I : Nat → List (Option Value) → Led → Prop) (X : Value → Shared → Prop)
    (next : ∀ i o vs D s, i < n → io i o → I i vs D → St F vs (D ++ [(it, o)]) s → wpAny F.M F.A (pyNext (.ref it)) (fun r s' => ∃ v o', r = some v ∧ val i v ∧ io (i + 1) o' ∧ St F vs (D ++ [(it, o')]) s') (fun _ _ => False) s)
    (fin : ∀ o vs D s, io n o → I n vs D → St F vs (D ++ [(it, o)]) s → wpAny F.M F.A (pyNext (.ref it)) (fun r s' => r = none ∧ St F vs D s') (fun _ _ => False) s)
    (own : ∀ i v o vs D s, val i v → io (i + 1) o → St F vs (D ++ [(it, o)]) s → wpAny F.M F.A (letOwnedTupleGo target (.ref it) v) (fun _ s' => s' = s) (fun _ _ => False) s)
    (turn : ∀ i v vs D E, i < n → val i v → I i vs D → HT F vs (D ++ E) (assign target F.env v) fun _ vs1 D1 => HT F vs1 D1 (execs body F.env) (Turn (I (i + 1)) QF E))
    (done : ∀ vs D, I n vs D → QF .next vs D) {o : Obj} (h0 : io 0 o) (hI : I 0 vs D) (hs : St F vs (D ++ [(it, o)]) s) :
    codeAny F.M F.A (.forLoop target (.ref it) body [] F.env) (fun r s' => match r with | .ok f => ∃ vs' D', St F vs' D' s' ∧ QF f vs' D' | .error e => X e s') s := by
  refine codeAny_mono (codeAny_forLoop_any (fun k s => ∃ i vs D o, k + i = n ∧ io i o ∧ I i vs D ∧ St F vs (D ++ [(it, o)]) s) (R := fun r s' => match r with | .ok f => ∃ vs' D', St F vs' D' s' ∧ QF f vs' D' | .error e => False) ?_ n ⟨0, vs, D, o, rfl, h0, hI, hs⟩) fun r s' hr => ?_
  · rintro k s ⟨i, vs, D, o, hk, ho, hI, hs⟩
    by_cases hi : i < n
    · refine wpAny_mono (next i o vs D s hi ho hI hs) (fun r s1 ⟨v, o', e, hv, ho', h1⟩ => ?_) fun _ _ x => x.elim
      subst e
      refine wpAny_mono (own i v o' vs D s1 hv ho' h1) (fun _ s2 e => ?_) fun _ _ x => x.elim
      subst e
      refine HT.use (turn i v vs D [(it, o')] hi hv hI) h1 fun _ s3 vs3 D3 h3 h4 => HT.use h4 h3 fun fl s4 vs4 D4 h5 h6 => ?_
      cases fl with
      | next => obtain ⟨D5, rfl, hI'⟩ := h6; exact ⟨k - 1, by omega, i + 1, _, _, _, by omega, ho', hI', h5⟩
      | cont => obtain ⟨D5, rfl, hI'⟩ := h6; exact ⟨k - 1, by omega, i + 1, _, _, _, by omega, ho', hI', h5⟩
      | brk => obtain ⟨D5, rfl, hq⟩ := h6; exact ⟨_, _, h5.left, hq⟩
      | ret v => obtain ⟨D5, rfl, hq⟩ := h6; exact ⟨_, _, h5.left, hq⟩
    · have hin : i = n := by omega
      subst hin
      refine wpAny_mono (fin o vs D s ho hI hs) (fun r s1 ⟨e, h1⟩ => ?_) fun _ _ x => x.elim
      subst e
      exact wpAny_execs_nil ⟨_, _, h1, done _ _ hI⟩
  · cases r with
    | ok f => exact hr
    | error e => exact hr.elim
noncomputable def lio (l : Addr) (i : Nat) (o : Obj) : Prop := o.cls = .type "list_iterator" ∧ o.data = .fields #[.ref l, .int i 0]
theorem St.ext (hs : St F vs (D ++ [(b, o)]) s) {h' : Heap} (hx : Heap.ExtBut b s.heap h') {k : Nat} (hne : b ≠ F.L) (hg : F.g.get? b = none) (hb : ∀ p ∈ D, p.1 ≠ b) : St F vs D { s with heap := h', toks := k } :=
  ⟨⟨hs.fr.ns.extBut hx (Ne.symm hne), fun c x e => hx c x (fun q => by subst q; rw [hg] at e; cases e) (hs.fr.keep c x e), hs.fr.above⟩,
    fun p hp => ⟨hx _ _ (hb p hp) (hs.nw p (List.mem_append.mpr (.inl hp))).1, (hs.nw p (List.mem_append.mpr (.inl hp))).2⟩, hs.left.nd, hs.ln, hs.gens, hs.os⟩
theorem St.lastNe {b o} (hs : St F vs (D ++ [(b, o)]) s) : b ≠ F.L ∧ F.g.get? b = none ∧ s.heap.get? b = some o ∧ ∀ p ∈ D, p.1 ≠ b := by
  have z := hs.nw (b, o) (List.mem_append.mpr (.inr (.head _)))
  refine ⟨z.2.1, z.2.2, z.1, fun p hp e => ?_⟩
  have := hs.nd
  rw [List.map_append] at this
  exact (List.nodup_append.mp this).2.2 _ (List.mem_map.mpr ⟨p, hp, rfl⟩) _ (List.mem_map.mpr ⟨_, .head _, rfl⟩) e
theorem Up.last {b o o'} : ∀ {D : Led}, Up b o o' (D ++ [(b, o)]) (D ++ [(b, o')])
  | [] => .head
  | _ :: _ => .tail Up.last
/-- for over a list of the ledger -/
theorem forList_ (ok : F.Ok) {target iter : PySem.Expr} {body : List Stmt} {pos : Pos} {l : Addr} {its : List Value} {n : Nat} (I : Nat → List (Option Value) → Led → Prop)
    (hiter : HT F vs D (eval iter F.env) fun v vs1 D1 => v = .ref l ∧ I 0 vs1 D1) (mem : ∀ i vs D, I i vs D → ∃ n, (l, W.listOf its.toArray n) ∈ D)
    (own : ∀ {it v s i}, its[i]? = some v → s.heap.IsListIter it l (i + 1) → wpAny F.M F.A (letOwnedTupleGo target (.ref it) v) (fun _ s' => s' = s) (fun _ _ => False) s)
    (turn : ∀ i v vs D E, its[i]? = some v → I i vs D → HT F vs (D ++ E) (assign target F.env v) fun _ vs1 D1 => HT F vs1 D1 (execs body F.env) (Turn (I (i + 1)) QF E))
    (done : ∀ vs D, I its.length vs D → QF .next vs D) (hs : ∀ x, foldedSetIterable iter F.env x = pure x := by intro _; rfl) : HT F vs D (exec (.For target iter body [] pos) F.env) QF := by
  intro s hs'
  refine wpAny_For (hiter.use hs' fun v s1 vs1 D1 h1 ⟨e, hI⟩ => ?_) hs
  subst e
  obtain ⟨n, hm⟩ := mem _ _ _ hI
  refine wpAny_pyIter_list (PySem.IsL.isList (n := n) (h1.get hm)) ?_
  refine for_core its.length (lio l) (fun i v => its[i]? = some v) I _ ?_ ?_ ?_ (fun i v vs D E _ hv hI => turn i v vs D E hv hI) done (o := { cls := .type "list_iterator", data := .fields #[.ref l, .int 0 0] }) ⟨rfl, rfl⟩ hI
    (St.swap (E := [_]) (h1.push _ (k := s1.toks)))
  · intro i o vs D s hi ho hI hs
    obtain ⟨n, hm⟩ := mem _ _ _ hI
    obtain ⟨z1, z2, z3, z4⟩ := hs.lastNe
    refine wpAny_pyNext_list_item (i := i) (x := its[i]) ⟨o, z3, ho⟩ (PySem.IsL.isList (n := n) (hs.left.get hm)) (by simp [hi]) fun h' hit hb => ?_
    obtain ⟨o', g1, g2⟩ := hit
    exact ⟨_, o', rfl, by simp [hi], g2, hs.upd Up.last hb g1 (k := s.toks)⟩
  · intro o vs D s ho hI hs
    obtain ⟨n, hm⟩ := mem _ _ _ hI
    obtain ⟨z1, z2, z3, z4⟩ := hs.lastNe
    refine wpAny_pyNext_list_end (i := its.length) ok.hd ⟨o, z3, ho⟩ (PySem.IsL.isList (n := n) (hs.left.get hm)) (by simp) fun h' hx => ⟨rfl, hs.ext hx z1 z2 z4 (k := s.toks)⟩
  · intro i v o vs D s hv ho hs
    obtain ⟨z1, z2, z3, z4⟩ := hs.lastNe
    exact own hv ⟨o, z3, ho⟩
theorem own_name {x : Str} {px : Pos} {it v : Value} {s : Shared} : wpAny F.M F.A (letOwnedTupleGo (.Name x px) it v) (fun _ s' => s' = s) (fun _ _ => False) s := wpAny_of_eq (a := ()) rfl rfl
theorem own_tuple {es k px l} {it v : Value} {s : Shared} {i : Nat} {a b : Addr} (hv : v = .ref b) (hi : it = .ref a) (h : s.heap.IsListIter a l i) : wpAny F.M F.A (letOwnedTupleGo (.Tuple es k px) it v) (fun _ s' => s' = s) (fun _ _ => False) s := by
  subst hv hi
  exact wpAny_letOwnedTupleGo_listiter h rfl
theorem assignName_ (ok : F.Ok) {x : Str} {px : Pos} {v : Value} {j : Nat} (hj : F.xs[j]? = some x) (h : QU () (vs.set j (some v)) D) : HT F vs D (assign (.Name x px) F.env v) QU := fun s hs =>
  PyProof.Rows.assign_Name (store_ ok (put_set hj hs.ln) h s hs)
noncomputable abbrev rngOf (a b c : Int) (t u w : Tok) : Obj := { cls := .type "range", data := .fields #[.int a t, .int b u, .int c w] }
theorem range1_ {n : Int} {t : Tok} (h : ∀ r t1 t2, (∀ p ∈ D, p.1 ≠ r) → Q (.ref r) vs ((r, rngOf 0 n 1 t1 t t2) :: D)) : HT F vs D (call (.type "range") [.int n t]) Q :=
  fun s hs => call_range_1 ⟨_, _, hs.push _, h _ _ _ fun p hp => hs.ne hp⟩
theorem range2_ {a b : Int} {t u : Tok} (h : ∀ r t1, (∀ p ∈ D, p.1 ≠ r) → Q (.ref r) vs ((r, rngOf a b 1 t u t1) :: D)) : HT F vs D (call (.type "range") [.int a t, .int b u]) Q :=
  fun s hs => call_range_2 ⟨_, _, hs.push _, h _ _ fun p hp => hs.ne hp⟩
noncomputable def rio (a b : Int) (i : Nat) (o : Obj) : Prop := o = { cls := .type "range_iterator", dict := none, data := .fields #[rawInt (a + i), rawInt (b - a - i), rawInt 1], slots := #[] }
/-- for over range(a, b), upward; D is what stands behind the range object -/
theorem forRange_ (ok : F.Ok) {x : Str} {px : Pos} {iter : PySem.Expr} {body : List Stmt} {pos : Pos} {a b : Int} {j : Nat} (hj : F.xs[j]? = some x) (hab : a ≤ b) (ha : -(2 ^ 61) ≤ a) (hb : b < 2 ^ 61) (I : Nat → List (Option Value) → Led → Prop)
    (hiter : HT F vs D (eval iter F.env) fun v vs1 D1 => ∃ r t u w D2, v = .ref r ∧ D1 = (r, rngOf a b 1 t u w) :: D2 ∧ I 0 vs1 D2)
    (turn : ∀ (i : Nat) t vs D E, a + (i : Int) < b → I i vs D → HT F (vs.set j (some (.int (a + (i : Int)) t))) (D ++ E) (execs body F.env) (Turn (I (i + 1)) QF E))
    (done : ∀ vs D, I (b - a).toNat vs D → QF .next vs D) (hs : ∀ x, foldedSetIterable iter F.env x = pure x := by intro _; rfl) : HT F vs D (exec (.For (.Name x px) iter body [] pos) F.env) QF := by
  intro s hs'
  refine wpAny_For (hiter.use hs' fun v s1 vs1 D1 h1 ⟨r, t, u, w, D2, e, e2, hI⟩ => ?_) hs
  subst e e2
  have hz : Builtin.Range.rangeSize a b 1 = b - a := by
    rw [rangeSize_one]
    split
    · rfl
    · omega
  refine wpAny_pyIter_range (h1.get (.head _)) (small_one (by omega) (by omega) (by omega) (by omega)) ?_
  rw [hz]
  have hS : St F vs1 (D2 ++ [(s1.heap.objs.size, { cls := .type "range_iterator", data := .fields #[rawInt a, rawInt (b - a), rawInt 1] })]) { s1 with heap := s1.heap.push { cls := .type "range_iterator", data := .fields #[rawInt a, rawInt (b - a), rawInt 1] } } := by
    have q := h1.push { cls := .type "range_iterator", data := .fields #[rawInt a, rawInt (b - a), rawInt 1] } (k := s1.toks)
    refine St.swap (E := [_]) ⟨q.fr, fun p hp => q.nw p ?_, ?_, q.ln, q.gens, q.os⟩
    · rcases List.mem_cons.mp hp with rfl | hp
      · exact .head _
      · exact .tail _ (.tail _ hp)
    · have := q.nd
      simp only [List.map_cons, List.nodup_cons, List.mem_cons, not_or, List.singleton_append] at this ⊢
      exact ⟨this.1.2, this.2.2⟩
  refine for_core (b - a).toNat (rio a b) (fun i v => ∃ t, v = .int (a + i) t) I _ ?_ ?_ ?_ ?_ done (by simp [rio]) hI hS
  · intro i o vs D s hi ho hI hs
    obtain ⟨z1, z2, z3, z4⟩ := hs.lastNe
    subst ho
    refine wpAny_pyNext_range_item (x := a + i) (left := b - a - i) (step := 1) z3 (by omega) fun h' hit hb => ⟨_, _, rfl, ⟨_, rfl⟩, ?_, hs.upd Up.last hb hit⟩
    unfold rio
    have e1 : a + (i : Int) + 1 = a + ((i + 1 : Nat) : Int) := by omega
    have e2 : b - a - (i : Int) - 1 = b - a - ((i + 1 : Nat) : Int) := by omega
    rw [e1, e2]
  · intro o vs D s ho hI hs
    obtain ⟨z1, z2, z3, z4⟩ := hs.lastNe
    subst ho
    refine wpAny_pyNext_range_end ok.hd z3 (by omega) fun h' hx => ⟨rfl, hs.ext hx z1 z2 z4 (k := s.toks)⟩
  · intro i v o vs D s _ _ _
    exact own_name
  · rintro i v vs D E hi ⟨t, rfl⟩ hI
    exact assignName_ ok hj (turn i t vs D E (by omega) hI)
end
-- L4
structure Dfn where
  name : Str
  qual : Str
  params : Arguments
  body : List Stmt
  scope : Scope
  dV : Value
  pm : Value
  cdv : Value
  xs : List Str
noncomputable abbrev Dfn.fn (d : Dfn) : FuncData := fnOf d.name d.qual d.params d.body d.scope d.dV .none .none d.pm none d.cdv .none
structure Dfn.Ok (d : Dfn) (f : Addr) : Prop where
  look : ∀ P, (KK P).lookup f = some ⟨.type "function", none, .func d.fn, #[]⟩
  code : ∀ P, codeIn (KK P) d.cdv d.qual = true
  nd : d.xs.Nodup
  loc : ∀ x ∈ d.xs, d.scope.names.lookup x = some .local
  cell : ∀ x ∈ d.scope.names, x.2 ≠ .cell
  co : d.scope.isCoroutine = false
  gen : d.scope.isGenerator = false
  kind : d.scope.kind = .function
@[reducible] noncomputable def Fx.sub (F : Fx) (g : Heap) (L : Addr) (A : Around) (d : Dfn) (f : Addr) : Fx :=
  { w := F.w, g := g, L := L, A := A.deeper (envX d.qual d.scope L f d.cdv []), A₀ := A, base := F.base, outer := F.env :: F.outer, qual := d.qual, scope := d.scope, f := f, cd := d.cdv, xs := d.xs, gens := F.gens, os := F.os, dr := F.dr, lv := F.lv + 1 }
/-- what a call brings about: the callee's body walked from its own frame -/
noncomputable def CallOk (F : Fx) (D : Led) (d : Dfn) (f : Addr) (A : Around) (vals : List (Option Value)) (Q : Value → Led → Prop) : Prop :=
  ∀ g L, (F.sub g L A d f).Ok → HT (F.sub g L A d f) vals D (execs d.body (F.sub g L A d f).env) fun fl _ D' => Q (match fl with | .ret v => v | _ => .none) D'
section
variable {F : Fx} {vs : List (Option Value)} {D D' : Led} {s : Shared}
variable {Q : Value → List (Option Value) → Led → Prop}
theorem codeD_ (ok : F.Ok) {A : Around} {d : Dfn} {f : Addr} (dk : d.Ok f) {args : List Value} {binds : List (Str × Value)} {vals : List (Option Value)} {R : Result → Shared → Prop} (hb : BindsTo s d.fn ⟨args, []⟩ binds) (hx : ∀ y ∈ binds, d.scope.names.lookup y.1 = some .local)
    (hlay : (fun y => binds.reverse.lookup y) = lay d.xs vals) (hln : vals.length = d.xs.length) (hlv : F.lv < 40)
    (hA : A.frames = some (F.env :: F.outer)) (hh : A.handled = none) (hd : A.depth ≤ 312 + 3 * F.lv) (hu : A.units ≤ 24 + 10 * F.lv)
    (hs : St F vs D s) (h : CallOk F D d f A vals fun v D' => ∀ s', St F vs D' s' → R (.ok (.ret v)) s') : codeAny F.M A (.call (.ref f) ⟨args, []⟩) R s := by
  obtain ⟨mean, mg, mb, T⟩ := ok.T
  refine callX_plain (cl := []) ok.B hs.fr hs.nw T.nolimit hA rfl ok.kind (hs.fr.keep _ _ (ok.K _ _ (dk.look _))) rfl (codeRec_of (ok.K.keeps hs.fr.keep) (dk.code _)) (by have := ok.lvl; simp only [recursionLimit]; omega) hb hx (fun g L' h₁ FG F' N' B' st _ => ?_) dk.cell dk.co dk.gen dk.kind
  have ok' : (F.sub g L' A d f).Ok := by
    refine ⟨ok.K.keeps st, ⟨mean, mg, mb, T.keeps st⟩, B', Around.frames_deeper hA, hh, dk.kind, ?_, ?_, hlv, dk.nd, dk.loc⟩
    · show A.depth + 1 ≤ 310 + 3 * (F.lv + 1)
      omega
    · show A.units + 3 ≤ 20 + 10 * (F.lv + 1)
      omega
  have s0 : St (F.sub g L' A d f) vals D ⟨h₁, s.gens, s.drawn, s.toks + binds.length, s.os⟩ := ⟨hlay ▸ F', N', hs.nd, hln, hs.gens, hs.os⟩
  refine wpAny_mono (h g L' ok' _ s0) (fun fl s' ⟨vs', D', h1, h2⟩ => ?_) fun _ _ x => x.elim
  exact ⟨_, _, _, h1.fr, h1.nw, fun FF NN => h2 _ ⟨FF, NN, h1.nd, hs.ln, h1.gens, h1.os⟩⟩
theorem callD_ (ok : F.Ok) {d : Dfn} {f : Addr} (dk : d.Ok f) {args : List Value} {binds : List (Str × Value)} {vals : List (Option Value)} (hb : bindArgs d.fn ⟨args, []⟩ = pure binds) (hx : ∀ y ∈ binds, d.scope.names.lookup y.1 = some .local)
    (hlay : (fun y => binds.reverse.lookup y) = lay d.xs vals) (hln : vals.length = d.xs.length) (hlv : F.lv < 40)
    (h : CallOk F D d f F.A vals fun v D' => Q v vs D') : HT F vs D (call (.ref f) args) Q := fun s hs =>
  wpAny_call (codeD_ ok dk (BindsTo.of_eq hb) hx hlay hln hlv ok.fr ok.hd (by have := ok.dep; omega) (by have := ok.uni; omega) hs fun g L ok' => (h g L ok').mono fun fl _ D' q s' hs' => ⟨_, _, hs', q⟩)
theorem lay_none (xs : List Str) (y : Str) : ∀ n, lay xs (List.replicate n none) y = none := by
  induction xs with
  | nil => intro n; cases n <;> rfl
  | cons x xs ih => intro n; cases n with
    | zero => rfl
    | succ n => show (if y = x then none else lay xs (List.replicate n none) y) = none; split; rfl; exact ih n
theorem lookup_append' {l₁ l₂ : List (Str × Value)} {y : Str} : (l₁ ++ l₂).lookup y = (l₁.lookup y).or (l₂.lookup y) := by
  induction l₁ with
  | nil => rfl
  | cons a l ih =>
    obtain ⟨b, v⟩ := a
    simp only [List.cons_append, List.lookup]
    split
    · simp
    · exact ih
theorem lay_binds {xs : List Str} : ∀ {ps : List Str} {args : List Value} {n : Nat}, args.length = ps.length → (ps ++ xs).Nodup → (fun y => (ps.zip args).reverse.lookup y) = lay (ps ++ xs) (args.map some ++ List.replicate n none)
  | [], [], n, _, _ => by funext y; exact (lay_none xs y n).symm
  | p :: ps, a :: args, n, hl, nd => by
    have hn := List.nodup_cons.mp nd
    have ih := lay_binds (xs := xs) (n := n) (by simpa using hl) hn.2
    funext y
    have := congrFun ih y
    simp only [List.zip_cons_cons, List.reverse_cons, lookup_append', this]
    show _ = (if y = p then some a else lay (ps ++ xs) (args.map some ++ List.replicate n none) y)
    by_cases h : y = p
    · subst h
      rw [if_pos rfl]
      have z : lay (ps ++ xs) (args.map some ++ List.replicate n none) y = none := by
        rw [← this]
        cases hq : (ps.zip args).reverse.lookup y with
        | none => rfl
        | some v =>
          exfalso
          have hm : ∃ v, (y, v) ∈ (ps.zip args).reverse := by
            have := List.lookup_eq_some_iff.mp hq
            obtain ⟨l₁, l₂, e, _⟩ := this
            exact ⟨v, e ▸ List.mem_append.mpr (.inr (.head _))⟩
          obtain ⟨v, hm⟩ := hm
          exact hn.1 (List.mem_append.mpr (.inl (List.of_mem_zip (List.mem_reverse.mp hm)).1))
      rw [z]
      simp
    · rw [if_neg h]
      have : ((y == p) = false) := by simpa using h
      simp [List.lookup, this]
/-- a call by position, the parameters first among the frame's names -/
theorem callP_ (ok : F.Ok) {d : Dfn} {f : Addr} (dk : d.Ok f) {args : List Value} {ps ls : List Str} (hb : bindArgs d.fn ⟨args, []⟩ = pure (ps.zip args)) (hxs : d.xs = ps ++ ls) (hln : args.length = ps.length) (hlv : F.lv < 40)
    (h : CallOk F D d f F.A (args.map some ++ List.replicate ls.length none) fun v D' => Q v vs D') : HT F vs D (call (.ref f) args) Q := by
  refine callD_ ok dk hb (fun y hy => dk.loc _ ?_) (by rw [hxs]; exact lay_binds hln (hxs ▸ dk.nd)) (by rw [hxs]; simp [hln]) hlv h
  rw [hxs]
  exact List.mem_append.mpr (.inl (List.of_mem_zip hy).1)
end
-- L5
/-- a natural number as the model's int -/
noncomputable abbrev VN (n : Nat) (t : Tok) : Value := .int (n : Int) t
section
variable {F : Fx} {vs : List (Option Value)} {D D' : Led} {s : Shared}
variable {Q : Value → List (Option Value) → Led → Prop} {QU : Unit → List (Option Value) → Led → Prop} {QB : Bool → List (Option Value) → Led → Prop} {QF : Flow → List (Option Value) → Led → Prop}
theorem and_n (a b : Nat) : Builtin.bitAnd (a : Int) (b : Int) = ((a &&& b : Nat) : Int) := by simpa using bitAnd_pp (x := a) (y := b) (by omega) (by omega)
theorem nat_xor_add (m : Nat) : ∀ n : Nat, (m ^^^ n) + 2 * (m &&& n) = m + n := by
  induction m using Nat.strongRecOn with
  | ind m ih =>
    intro n
    by_cases h0 : m = 0
    · subst h0; simp
    · have ih' := ih (m / 2) (by omega) (n / 2)
      rw [← Nat.xor_div_two, ← Nat.and_div_two] at ih'
      have o1 := @Nat.xor_mod_two_eq_one m n
      have a1 := @Nat.and_mod_two_eq_one m n
      omega
theorem or_n (a b : Nat) : Builtin.bitOr (a : Int) (b : Int) = ((a ||| b : Nat) : Int) := by
  have e := nat_or_add_and a b
  rw [bitOr_and, and_n]
  omega
theorem xor_n (a b : Nat) : Builtin.bitXor (a : Int) (b : Int) = ((a ^^^ b : Nat) : Int) := by
  have e := nat_xor_add a b
  rw [bitXor_and, and_n]
  omega
theorem IntN_ {n : Nat} {k pos} (h : ∀ t, Q (VN n t) vs D) : HT F vs D (eval (.Constant (.int (n : Int)) k pos) F.env) Q := Int_ h
theorem addN_ {a b : Nat} {t u : Tok} (h : ∀ t', Q (VN (a + b) t') vs D) : HT F vs D (binaryOp .Add (VN a t) (VN b u)) Q := fun s hs => add_int ⟨_, _, hs.tok, h _⟩
theorem iaddN_ {a b : Nat} {t u : Tok} (h : ∀ t', Q (VN (a + b) t') vs D) : HT F vs D (inplaceOp .Add (VN a t) (VN b u)) Q := fun s hs => iadd_int ⟨_, _, hs.tok, h _⟩
theorem subN_ {a b : Nat} {t u : Tok} (hle : b ≤ a) (h : ∀ t', Q (VN (a - b) t') vs D) : HT F vs D (binaryOp .Sub (VN a t) (VN b u)) Q := fun s hs => sub_int ⟨_, _, hs.tok, by
  have := h s.toks
  unfold VN at this
  rwa [Int.ofNat_sub hle] at this⟩
theorem mulN_ {a b : Nat} {t u : Tok} (hok : IntMulOk (a : Int) (b : Int)) (h : ∀ t', Q (VN (a * b) t') vs D) : HT F vs D (binaryOp .Mult (VN a t) (VN b u)) Q := fun s hs => mul_int ⟨_, _, hs.tok, by
  have := h s.toks
  unfold VN at this
  rwa [Int.natCast_mul] at this⟩ hok
theorem andN_ {a b : Nat} {t u : Tok} (h : ∀ t', Q (VN (a &&& b) t') vs D) : HT F vs D (binaryOp .BitAnd (VN a t) (VN b u)) Q := fun s hs => and_int ⟨_, _, hs.tok, and_n a b ▸ h _⟩
theorem orN_ {a b : Nat} {t u : Tok} (h : ∀ t', Q (VN (a ||| b) t') vs D) : HT F vs D (binaryOp .BitOr (VN a t) (VN b u)) Q := fun s hs => or_int ⟨_, _, hs.tok, or_n a b ▸ h _⟩
theorem xorN_ {a b : Nat} {t u : Tok} (h : ∀ t', Q (VN (a ^^^ b) t') vs D) : HT F vs D (binaryOp .BitXor (VN a t) (VN b u)) Q := fun s hs => xor_int ⟨_, _, hs.tok, xor_n a b ▸ h _⟩
theorem iandN_ {a b : Nat} {t u : Tok} (h : ∀ t', Q (VN (a &&& b) t') vs D) : HT F vs D (inplaceOp .BitAnd (VN a t) (VN b u)) Q := fun s hs => iand_int ⟨_, _, hs.tok, and_n a b ▸ h _⟩
theorem iorN_ {a b : Nat} {t u : Tok} (h : ∀ t', Q (VN (a ||| b) t') vs D) : HT F vs D (inplaceOp .BitOr (VN a t) (VN b u)) Q := fun s hs => ior_int ⟨_, _, hs.tok, or_n a b ▸ h _⟩
theorem shlN_ {a b : Nat} {t u : Tok} (hb : b ≤ 1000) (ha : a < 2 ^ 64) (h : ∀ t', Q (VN (a <<< b) t') vs D) : HT F vs D (binaryOp .LShift (VN a t) (VN b u)) Q := fun s hs => lshift_int_small (by omega) (by omega) (by omega) ⟨_, _, hs.tok, by
  have := h s.toks
  unfold VN at this
  rw [Nat.shiftLeft_eq] at this
  simpa using this⟩
theorem shrN_ {a b : Nat} {t u : Tok} (h : ∀ t', Q (VN (a >>> b) t') vs D) : HT F vs D (binaryOp .RShift (VN a t) (VN b u)) Q := fun s hs => rshift_int (by omega) ⟨_, _, hs.tok, by
  have := h s.toks
  unfold VN at this
  rw [Nat.shiftRight_eq_div_pow] at this
  have e : ((a : Int).fdiv (2 ^ ((b : Int)).toNat)) = ((a / 2 ^ b : Nat) : Int) := by
    rw [Int.fdiv_eq_ediv_of_nonneg _ (Int.le_of_lt (Int.pow_pos (by decide)))]
    simp
  rw [e]; exact this⟩
end
-- L6
noncomputable section
@[reducible] noncomputable def d_literal_word : Dfn := ⟨Str.ofString "literal_word", Str.ofString "literal_word", prm (stAt 3), bod (stAt 3), scp (stAt 3), .none, .str (Str.ofString "gateloom.aig") 194, .ref 126, [Str.ofString "words", Str.ofString "literal", Str.ofString "mask"]⟩
theorem k_literal_word : d_literal_word.Ok 127 := ⟨fun P => by kernel_rfl, fun P => by kernel_rfl, by decide +kernel, by decide +kernel, by decide +kernel, by kernel_rfl, by kernel_rfl, by kernel_rfl⟩
@[reducible] noncomputable def d_full_table : Dfn := ⟨Str.ofString "full_table", Str.ofString "full_table", prm (stAt 18), bod (stAt 18), scp (stAt 18), .none, .str (Str.ofString "gateloom.truth") 631, .ref 332, [Str.ofString "k"]⟩
theorem k_full_table : d_full_table.Ok 333 := ⟨fun P => by kernel_rfl, fun P => by kernel_rfl, by decide +kernel, by decide +kernel, by decide +kernel, by kernel_rfl, by kernel_rfl, by kernel_rfl⟩
@[reducible] noncomputable def d_var_table : Dfn := ⟨Str.ofString "var_table", Str.ofString "var_table", prm (stAt 19), bod (stAt 19), scp (stAt 19), .none, .str (Str.ofString "gateloom.truth") 631, .ref 339, [Str.ofString "i", Str.ofString "k", Str.ofString "full"]⟩
theorem k_var_table : d_var_table.Ok 340 := ⟨fun P => by kernel_rfl, fun P => by kernel_rfl, by decide +kernel, by decide +kernel, by decide +kernel, by kernel_rfl, by kernel_rfl, by kernel_rfl⟩
@[reducible] noncomputable def d_low_bit : Dfn := ⟨Str.ofString "low_bit", Str.ofString "low_bit", prm (stAt 20), bod (stAt 20), scp (stAt 20), .none, .str (Str.ofString "gateloom.truth") 631, .ref 346, [Str.ofString "n", Str.ofString "place"]⟩
theorem k_low_bit : d_low_bit.Ok 347 := ⟨fun P => by kernel_rfl, fun P => by kernel_rfl, by decide +kernel, by decide +kernel, by decide +kernel, by kernel_rfl, by kernel_rfl, by kernel_rfl⟩
@[reducible] noncomputable def d_cone_nodes : Dfn := ⟨Str.ofString "cone_nodes", Str.ofString "cone_nodes", prm (stAt 22), bod (stAt 22), scp (stAt 22), .none, .str (Str.ofString "gateloom.equiv") 657, .ref 353, [Str.ofString "aig", Str.ofString "literals", Str.ofString "seen", Str.ofString "stack", Str.ofString "literal", Str.ofString "node", Str.ofString "pair"]⟩
theorem k_cone_nodes : d_cone_nodes.Ok 354 := ⟨fun P => by kernel_rfl, fun P => by kernel_rfl, by decide +kernel, by decide +kernel, by decide +kernel, by kernel_rfl, by kernel_rfl, by kernel_rfl⟩
@[reducible] noncomputable def d_cone_words : Dfn := ⟨Str.ofString "cone_words", Str.ofString "cone_words", prm (stAt 25), bod (stAt 25), scp (stAt 25), .none, .str (Str.ofString "gateloom.equiv") 657, .ref 365, [Str.ofString "aig", Str.ofString "nodes", Str.ofString "inputs", Str.ofString "k", Str.ofString "full", Str.ofString "words", Str.ofString "i", Str.ofString "node", Str.ofString "pair", Str.ofString "left"]⟩
theorem k_cone_words : d_cone_words.Ok 366 := ⟨fun P => by kernel_rfl, fun P => by kernel_rfl, by decide +kernel, by decide +kernel, by decide +kernel, by kernel_rfl, by kernel_rfl, by kernel_rfl⟩
@[reducible] noncomputable def d_table_difference : Dfn := ⟨Str.ofString "table_difference", Str.ofString "table_difference", prm (stAt 26), bod (stAt 26), scp (stAt 26), .none, .str (Str.ofString "gateloom.equiv") 657, .ref 372, [Str.ofString "aig", Str.ofString "left", Str.ofString "right", Str.ofString "nodes", Str.ofString "inputs", Str.ofString "words", Str.ofString "full", Str.ofString "differ", Str.ofString "row", Str.ofString "bits", Str.ofString "i"]⟩
theorem k_table_difference : d_table_difference.Ok 373 := ⟨fun P => by kernel_rfl, fun P => by kernel_rfl, by decide +kernel, by decide +kernel, by decide +kernel, by kernel_rfl, by kernel_rfl, by kernel_rfl⟩
@[reducible] noncomputable def d_pattern_count : Dfn := ⟨Str.ofString "pattern_count", Str.ofString "pattern_count", prm (stAt 29), bod (stAt 29), scp (stAt 29), .none, .str (Str.ofString "gateloom.fraig") 712, .ref 379, [Str.ofString "words", Str.ofString "count", Str.ofString "word"]⟩
theorem k_pattern_count : d_pattern_count.Ok 380 := ⟨fun P => by kernel_rfl, fun P => by kernel_rfl, by decide +kernel, by decide +kernel, by decide +kernel, by kernel_rfl, by kernel_rfl, by kernel_rfl⟩
@[reducible] noncomputable def d_parting : Dfn := ⟨Str.ofString "parting", Str.ofString "parting", prm (stAt 32), bod (stAt 32), scp (stAt 32), .none, .str (Str.ofString "gateloom.fraig") 712, .ref 456, [Str.ofString "aig", Str.ofString "left", Str.ofString "right", Str.ofString "conflicts", Str.ofString "nodes", Str.ofString "inputs", Str.ofString "bits"]⟩
theorem k_parting : d_parting.Ok 457 := ⟨fun P => by kernel_rfl, fun P => by kernel_rfl, by decide +kernel, by decide +kernel, by decide +kernel, by kernel_rfl, by kernel_rfl, by kernel_rfl⟩
@[reducible] noncomputable def d_next_candidate : Dfn := ⟨Str.ofString "next_candidate", Str.ofString "next_candidate", prm (stAt 33), bod (stAt 33), scp (stAt 33), .none, .str (Str.ofString "gateloom.fraig") 712, .ref 463, [Str.ofString "signatures", Str.ofString "node", Str.ofString "refused", Str.ofString "other"]⟩
theorem k_next_candidate : d_next_candidate.Ok 464 := ⟨fun P => by kernel_rfl, fun P => by kernel_rfl, by decide +kernel, by decide +kernel, by decide +kernel, by kernel_rfl, by kernel_rfl, by kernel_rfl⟩
@[reducible] noncomputable def d_equal_literal : Dfn := ⟨Str.ofString "equal_literal", Str.ofString "equal_literal", prm (stAt 34), bod (stAt 34), scp (stAt 34), .none, .str (Str.ofString "gateloom.fraig") 712, .ref 470, [Str.ofString "signatures", Str.ofString "node", Str.ofString "conflicts", Str.ofString "refused", Str.ofString "other", Str.ofString "sign", Str.ofString "literal", Str.ofString "bits"]⟩
theorem k_equal_literal : d_equal_literal.Ok 471 := ⟨fun P => by kernel_rfl, fun P => by kernel_rfl, by decide +kernel, by decide +kernel, by decide +kernel, by kernel_rfl, by kernel_rfl, by kernel_rfl⟩
@[reducible] noncomputable def d_settle_node : Dfn := ⟨Str.ofString "settle_node", Str.ofString "settle_node", prm (stAt 35), bod (stAt 35), scp (stAt 35), .none, .str (Str.ofString "gateloom.fraig") 712, .ref 477, [Str.ofString "signatures", Str.ofString "merged", Str.ofString "conflicts", Str.ofString "node", Str.ofString "literal"]⟩
theorem k_settle_node : d_settle_node.Ok 478 := ⟨fun P => by kernel_rfl, fun P => by kernel_rfl, by decide +kernel, by decide +kernel, by decide +kernel, by kernel_rfl, by kernel_rfl, by kernel_rfl⟩
@[reducible] noncomputable def d_law_pick : Dfn := ⟨Str.ofString "_law_pick", Str.ofString "_law_pick", prm (stAt 37), bod (stAt 37), scp (stAt 37), .none, .str (Str.ofString "law_sj0059_01") 879, .ref 484, [Str.ofString "cells", Str.ofString "pot", Str.ofString "limit", Str.ofString "digit", Str.ofString "number"]⟩
theorem k_law_pick : d_law_pick.Ok 485 := ⟨fun P => by kernel_rfl, fun P => by kernel_rfl, by decide +kernel, by decide +kernel, by decide +kernel, by kernel_rfl, by kernel_rfl, by kernel_rfl⟩
@[reducible] noncomputable def d_law_column : Dfn := ⟨Str.ofString "_law_column", Str.ofString "_law_column", prm (stAt 38), bod (stAt 38), scp (stAt 38), .none, .str (Str.ofString "law_sj0059_01") 879, .ref 491, [Str.ofString "i", Str.ofString "n", Str.ofString "column", Str.ofString "j"]⟩
theorem k_law_column : d_law_column.Ok 492 := ⟨fun P => by kernel_rfl, fun P => by kernel_rfl, by decide +kernel, by decide +kernel, by decide +kernel, by kernel_rfl, by kernel_rfl, by kernel_rfl⟩
@[reducible] noncomputable def d_law_settled : Dfn := ⟨Str.ofString "_law_settled", Str.ofString "_law_settled", prm (stAt 39), bod (stAt 39), scp (stAt 39), .none, .str (Str.ofString "law_sj0059_01") 879, .ref 498, [Str.ofString "n", Str.ofString "words", Str.ofString "picks", Str.ofString "graph", Str.ofString "columns", Str.ofString "full", Str.ofString "i", Str.ofString "marks", Str.ofString "first", Str.ofString "expected", Str.ofString "at", Str.ofString "noted", Str.ofString "due", Str.ofString "pairs", Str.ofString "one", Str.ofString "two", Str.ofString "before", Str.ofString "column", Str.ofString "match", Str.ofString "seen", Str.ofString "bit", Str.ofString "m", Str.ofString "masked", Str.ofString "word", Str.ofString "other"]⟩
theorem k_law_settled : d_law_settled.Ok 499 := ⟨fun P => by kernel_rfl, fun P => by kernel_rfl, by decide +kernel, by decide +kernel, by decide +kernel, by kernel_rfl, by kernel_rfl, by kernel_rfl⟩
@[reducible] noncomputable def d_law : Dfn := ⟨Str.ofString "law", Str.ofString "law", prm (stAt 40), bod (stAt 40), scp (stAt 40), .none, .str (Str.ofString "law_sj0059_01") 879, .ref 503, [Str.ofString "script", Str.ofString "cells", Str.ofString "pot", Str.ofString "n", Str.ofString "words", Str.ofString "i", Str.ofString "picks", Str.ofString "step", Str.ofString "one"]⟩
theorem k_law : d_law.Ok 504 := ⟨fun P => by kernel_rfl, fun P => by kernel_rfl, by decide +kernel, by decide +kernel, by decide +kernel, by kernel_rfl, by kernel_rfl, by kernel_rfl⟩
@[reducible] noncomputable def d_Aig__init : Dfn := ⟨Str.ofString "__init__", Str.ofString "Aig.__init__", prm (mtAt 2 0), bod (mtAt 2 0), scp (mtAt 2 0), .none, .str (Str.ofString "gateloom.aig") 194, .ref 34, [Str.ofString "self"]⟩
theorem k_Aig__init : d_Aig__init.Ok 35 := ⟨fun P => by kernel_rfl, fun P => by kernel_rfl, by decide +kernel, by decide +kernel, by decide +kernel, by kernel_rfl, by kernel_rfl, by kernel_rfl⟩
@[reducible] noncomputable def d_Aig_add_input : Dfn := ⟨Str.ofString "add_input", Str.ofString "Aig.add_input", prm (mtAt 2 1), bod (mtAt 2 1), scp (mtAt 2 1), .none, .str (Str.ofString "gateloom.aig") 194, .ref 41, [Str.ofString "self", Str.ofString "node"]⟩
theorem k_Aig_add_input : d_Aig_add_input.Ok 42 := ⟨fun P => by kernel_rfl, fun P => by kernel_rfl, by decide +kernel, by decide +kernel, by decide +kernel, by kernel_rfl, by kernel_rfl, by kernel_rfl⟩
@[reducible] noncomputable def d_Aig_is_and : Dfn := ⟨Str.ofString "is_and", Str.ofString "Aig.is_and", prm (mtAt 2 3), bod (mtAt 2 3), scp (mtAt 2 3), .none, .str (Str.ofString "gateloom.aig") 194, .ref 55, [Str.ofString "self", Str.ofString "node"]⟩
theorem k_Aig_is_and : d_Aig_is_and.Ok 56 := ⟨fun P => by kernel_rfl, fun P => by kernel_rfl, by decide +kernel, by decide +kernel, by decide +kernel, by kernel_rfl, by kernel_rfl, by kernel_rfl⟩
@[reducible] noncomputable def d_Aig_land : Dfn := ⟨Str.ofString "land", Str.ofString "Aig.land", prm (mtAt 2 4), bod (mtAt 2 4), scp (mtAt 2 4), .none, .str (Str.ofString "gateloom.aig") 194, .ref 62, [Str.ofString "self", Str.ofString "l", Str.ofString "r", Str.ofString "node"]⟩
theorem k_Aig_land : d_Aig_land.Ok 63 := ⟨fun P => by kernel_rfl, fun P => by kernel_rfl, by decide +kernel, by decide +kernel, by decide +kernel, by kernel_rfl, by kernel_rfl, by kernel_rfl⟩
@[reducible] noncomputable def d_Aig_value : Dfn := ⟨Str.ofString "value", Str.ofString "Aig.value", prm (mtAt 2 11), bod (mtAt 2 11), scp (mtAt 2 11), .ref 106, .str (Str.ofString "gateloom.aig") 194, .ref 112, [Str.ofString "self", Str.ofString "words", Str.ofString "mask", Str.ofString "found", Str.ofString "i", Str.ofString "node", Str.ofString "pair", Str.ofString "left"]⟩
theorem k_Aig_value : d_Aig_value.Ok 113 := ⟨fun P => by kernel_rfl, fun P => by kernel_rfl, by decide +kernel, by decide +kernel, by decide +kernel, by kernel_rfl, by kernel_rfl, by kernel_rfl⟩
@[reducible] noncomputable def d_Signatures__init : Dfn := ⟨Str.ofString "__init__", Str.ofString "Signatures.__init__", prm (mtAt 30 0), bod (mtAt 30 0), scp (mtAt 30 0), .none, .str (Str.ofString "gateloom.fraig") 712, .ref 393, [Str.ofString "self", Str.ofString "aig", Str.ofString "words", Str.ofString "place"]⟩
theorem k_Signatures__init : d_Signatures__init.Ok 394 := ⟨fun P => by kernel_rfl, fun P => by kernel_rfl, by decide +kernel, by decide +kernel, by decide +kernel, by kernel_rfl, by kernel_rfl, by kernel_rfl⟩
@[reducible] noncomputable def d_Signatures_mask : Dfn := ⟨Str.ofString "mask", Str.ofString "Signatures.mask", prm (mtAt 30 1), bod (mtAt 30 1), scp (mtAt 30 1), .none, .str (Str.ofString "gateloom.fraig") 712, .ref 400, [Str.ofString "self"]⟩
theorem k_Signatures_mask : d_Signatures_mask.Ok 401 := ⟨fun P => by kernel_rfl, fun P => by kernel_rfl, by decide +kernel, by decide +kernel, by decide +kernel, by kernel_rfl, by kernel_rfl, by kernel_rfl⟩
@[reducible] noncomputable def d_Signatures_refresh : Dfn := ⟨Str.ofString "refresh", Str.ofString "Signatures.refresh", prm (mtAt 30 2), bod (mtAt 30 2), scp (mtAt 30 2), .none, .str (Str.ofString "gateloom.fraig") 712, .ref 407, [Str.ofString "self", Str.ofString "node"]⟩
theorem k_Signatures_refresh : d_Signatures_refresh.Ok 408 := ⟨fun P => by kernel_rfl, fun P => by kernel_rfl, by decide +kernel, by decide +kernel, by decide +kernel, by kernel_rfl, by kernel_rfl, by kernel_rfl⟩
@[reducible] noncomputable def d_Signatures_normal : Dfn := ⟨Str.ofString "normal", Str.ofString "Signatures.normal", prm (mtAt 30 3), bod (mtAt 30 3), scp (mtAt 30 3), .none, .str (Str.ofString "gateloom.fraig") 712, .ref 414, [Str.ofString "self", Str.ofString "node", Str.ofString "word"]⟩
theorem k_Signatures_normal : d_Signatures_normal.Ok 415 := ⟨fun P => by kernel_rfl, fun P => by kernel_rfl, by decide +kernel, by decide +kernel, by decide +kernel, by kernel_rfl, by kernel_rfl, by kernel_rfl⟩
@[reducible] noncomputable def d_Signatures_follow : Dfn := ⟨Str.ofString "follow", Str.ofString "Signatures.follow", prm (mtAt 30 4), bod (mtAt 30 4), scp (mtAt 30 4), .none, .str (Str.ofString "gateloom.fraig") 712, .ref 421, [Str.ofString "self", Str.ofString "node", Str.ofString "left", Str.ofString "right", Str.ofString "word"]⟩
theorem k_Signatures_follow : d_Signatures_follow.Ok 422 := ⟨fun P => by kernel_rfl, fun P => by kernel_rfl, by decide +kernel, by decide +kernel, by decide +kernel, by kernel_rfl, by kernel_rfl, by kernel_rfl⟩
@[reducible] noncomputable def d_Signatures_keep : Dfn := ⟨Str.ofString "keep", Str.ofString "Signatures.keep", prm (mtAt 30 5), bod (mtAt 30 5), scp (mtAt 30 5), .none, .str (Str.ofString "gateloom.fraig") 712, .ref 428, [Str.ofString "self", Str.ofString "node"]⟩
theorem k_Signatures_keep : d_Signatures_keep.Ok 429 := ⟨fun P => by kernel_rfl, fun P => by kernel_rfl, by decide +kernel, by decide +kernel, by decide +kernel, by kernel_rfl, by kernel_rfl, by kernel_rfl⟩
@[reducible] noncomputable def d_Signatures_add_pattern : Dfn := ⟨Str.ofString "add_pattern", Str.ofString "Signatures.add_pattern", prm (mtAt 30 6), bod (mtAt 30 6), scp (mtAt 30 6), .none, .str (Str.ofString "gateloom.fraig") 712, .ref 435, [Str.ofString "self", Str.ofString "bits", Str.ofString "place", Str.ofString "bit"]⟩
theorem k_Signatures_add_pattern : d_Signatures_add_pattern.Ok 436 := ⟨fun P => by kernel_rfl, fun P => by kernel_rfl, by decide +kernel, by decide +kernel, by decide +kernel, by kernel_rfl, by kernel_rfl, by kernel_rfl⟩
end
-- L7
noncomputable abbrev IK (w : World) : KeyKind PySem.Challenge.pw_sj0059_01 w Int := intKind PySem.Challenge.pw_sj0059_01 w
/-- the object is a dict of the pairs kvs under int keys -/
noncomputable abbrev DI (w : World) (o : Obj) (kvs : List (Int × Value)) : Prop := o.IsDictOf (IK w) kvs
theorem ik_is (w : World) (k : Int) (t : Tok) : (IK w).is k (.int k t) = true := intKind_is _ w k t
theorem stored_le (kvs : List (Int × Value)) (k : Int) (v : Value) : (stored kvs k v).length ≤ kvs.length + 1 := stored_length_le kvs k v
section
variable {F : Fx} {vs : List (Option Value)} {D D' : Led} {s : Shared}
variable {Q : Value → List (Option Value) → Led → Prop} {QU : Unit → List (Option Value) → Led → Prop} {QB : Bool → List (Option Value) → Led → Prop} {QF : Flow → List (Option Value) → Led → Prop} {QM : Value × List Value → List (Option Value) → Led → Prop}
theorem notSys (ok : F.Ok) (hs : St F vs D s) {d o} (hm : (d, o) ∈ D) : (d == sysModules) = false := by
  refine beq_eq_false_iff_ne.mpr fun e => ?_
  have e' : d = 1 := e
  subst e'
  have h1 := (hs.nw _ hm).2.2
  have h2 := ok.K 1 _ rfl
  rw [h1] at h2
  cases h2
theorem DI.at {d o kvs} (hs : St F vs D s) (hm : (d, o) ∈ D) (hd : DI F.w o kvs) : s.heap.DictOf (IK F.w) d kvs := Heap.dictOf_iff.mpr ⟨o, hs.get hm, hd⟩
theorem newDict_ (ok : F.Ok) {pos : Pos} (h : ∀ d o, (∀ p ∈ D, p.1 ≠ d) → DI F.w o [] → Q (.ref d) vs ((d, o) :: D)) : HT F vs D (eval (.Dict [] [] pos) F.env) Q := fun s hs => by
  obtain ⟨_, _, _, T⟩ := ok.T
  exact newDict_K hs.fr hs.nw T.nolimit fun d h' o F' N' hl _ _ _ h1 _ => ⟨_, _, hs.cons F' N' (fun p hp => Nat.ne_of_lt (hl p hp)) (k := s.toks), h d o (fun p hp => Nat.ne_of_lt (hl p hp)) h1⟩
theorem getItem_d {d o kvs} {k : Int} {t : Tok} {v : Value} (hm : (d, o) ∈ D) (hd : DI F.w o kvs) (hv : valueAt kvs k = some v) (h : Q v vs D) : HT F vs D (getItem (.ref d) (.int k t)) Q :=
  fun s hs => wpAny_getItem_of (ik_is F.w k t) (DI.at hs hm hd).mapOf hv ⟨_, _, hs.tok, h⟩
theorem tail_d {value slice : PySem.Expr} {d o kvs} {k : Int} {t : Tok} {v : Value} (hm : (d, o) ∈ D) (hd : DI F.w o kvs) (hv : valueAt kvs k = some v) (h : Q v vs D)
    (hs : subscripted slice false (.ref d) (.int k t) = operate [.ref d, .int k t] (getItem (.ref d) (.int k t)) := by with_unfolding_all rfl) : HT F vs D (subscriptTail value slice (.ref d) (.int k t)) Q :=
  fun s hs' => tail_any (DI.at hs' hm hd).typeIs slot_dict_getitem.lookup (getItem_d hm hd hv h s hs') hs
theorem setItem_d (ok : F.Ok) {d o kvs} {k : Int} {t : Tok} {v : Value} {D' : Obj → Led} (hu : ∀ o', Up d o o' D (D' o')) (hd : DI F.w o kvs) (hz : kvs.length ≤ sizeLine) (h : ∀ o', DI F.w o' (stored kvs k v) → QU () vs (D' o')) : HT F vs D (setItem (.ref d) (.int k t) v) QU := fun s hs =>
  wpAny_setItem_pairs (hsz := hz) (ik_is F.w k t) (DI.at hs (hu o).mem hd) fun h' hm' hb => by
    obtain ⟨o', g1, g2⟩ := Heap.dictOf_iff.mp hm'
    exact ⟨_, _, hs.upd (hu o') hb g1, h o' g2⟩
theorem in_d (ok : F.Ok) {d o kvs} {k : Int} {t : Tok} (hm : (d, o) ∈ D) (hd : DI F.w o kvs) (h : Q (.bool (valueAt kvs k).isSome) vs D) : HT F vs D (compareOp .In (.int k t) (.ref d)) Q :=
  fun s hs => wpAny_in_of (ik_is F.w k t) (notSys ok hs hm) (DI.at hs hm hd).mapOf ⟨_, _, hs.tok, h⟩
theorem notIn_d (ok : F.Ok) {d o kvs} {k : Int} {t : Tok} (hm : (d, o) ∈ D) (hd : DI F.w o kvs) (h : Q (.bool (!(valueAt kvs k).isSome)) vs D) : HT F vs D (compareOp .NotIn (.int k t) (.ref d)) Q :=
  fun s hs => wpAny_notIn_of (ik_is F.w k t) (notSys ok hs hm) (DI.at hs hm hd).mapOf ⟨_, _, hs.tok, h⟩
theorem dget2_ (ok : F.Ok) {d o kvs} {k : Int} {t : Tok} {dflt : Value} (hm : (d, o) ∈ D) (hd : DI F.w o kvs) (h : Q ((valueAt kvs k).getD dflt) vs D) : HT F vs D (call (.builtin "dict.get") [.ref d, .int k t, dflt]) Q :=
  fun s hs => call_meetsIn PySem.F.slot_dict_get (DI.at hs hm hd).typeIs PySem.F.entry_dict_get (PySem.F.args_dict_get_3 _ _ _) (meets_dict_get_default (IK F.w) d (ik_is F.w k t) (notSys ok hs hm) dflt) ⟨_, (DI.at hs hm hd).mapOf, _, _, hs.tok, h⟩
theorem setdef_ (ok : F.Ok) {d o kvs} {k : Int} {t : Tok} {dflt : Value} {D' : Obj → Led} (hu : ∀ o', Up d o o' D (D' o')) (hd : DI F.w o kvs) (hz : kvs.length ≤ sizeLine)
    (h1 : ∀ v, valueAt kvs k = some v → Q v vs D) (h2 : valueAt kvs k = none → ∀ o', DI F.w o' (stored kvs k dflt) → Q dflt vs (D' o')) : HT F vs D (call (.builtin "dict.setdefault") [.ref d, .int k t, dflt]) Q :=
  fun s hs => call_meetsIn PySem.F.slot_dict_setdefault (DI.at hs (hu o).mem hd).typeIs PySem.F.entry_dict_setdefault (PySem.F.args_dict_setdefault_3 _ _ _) (kt_meets_setdefault (IK F.w) d (ik_is F.w k t) (notSys ok hs (hu o).mem) dflt)
    ⟨kvs, DI.at hs (hu o).mem hd, hz, fun v hv => ⟨_, _, hs.tok, h1 v hv⟩, fun hn h' hm' hb => by
      obtain ⟨o', g1, g2⟩ := Heap.dictOf_iff.mp hm'
      exact ⟨_, _, hs.upd (hu o') hb g1, h2 hn o' g2⟩⟩
theorem len_d (ok : F.Ok) {d o kvs} (hm : (d, o) ∈ D) (hd : DI F.w o kvs) (hf : kvs.length < 2 ^ 62) (h : ∀ t, Q (VN kvs.length t) vs D) : HT F vs D (call (.builtin "len") [.ref d]) Q :=
  fun s hs => call_len_dict (notSys ok hs hm) (DI.at hs hm hd) (by omega) ⟨_, _, hs.tok, h _⟩
theorem dmeth_ {d o kvs} {name : Str} {id : String} {pl : Sem Bool} (slot : Slot "dict" name id) (hty : typeOf (.builtin id) = Pure.pure (.type "method_descriptor")) (hm : (d, o) ∈ D) (hd : DI F.w o kvs) (h : QM (.builtin id, [.ref d]) vs D) : HT F vs D (getMethod (.ref d) name pl) QM :=
  fun s hs => getMethod_builtin (DI.at hs hm hd).typeIs PySem.F.plainAttrs_dict slot hty (DI.at hs hm hd).mapOf.noDict ⟨_, _, hs, h⟩
theorem dget_m {d o kvs} {pl : Sem Bool} (hm : (d, o) ∈ D) (hd : DI F.w o kvs) (h : QM (.builtin "dict.get", [.ref d]) vs D) : HT F vs D (getMethod (.ref d) "get" pl) QM := dmeth_ PySem.F.slot_dict_get PySem.F.type_dict_get hm hd h
theorem dsetdef_m {d o kvs} {pl : Sem Bool} (hm : (d, o) ∈ D) (hd : DI F.w o kvs) (h : QM (.builtin "dict.setdefault", [.ref d]) vs D) : HT F vs D (getMethod (.ref d) "setdefault" pl) QM := dmeth_ PySem.F.slot_dict_setdefault PySem.F.type_dict_setdefault hm hd h
end
-- L8
/-- the dict of a Signatures object; T: the tokens of its keys -/
noncomputable def sigE (P : Params) (T : Nat → Tok) (aig count rows kept values classes : Value) : List DictEntry := [ent P "aig" (T 0) aig, ent P "count" (T 1) count, ent P "rows" (T 2) rows, ent P "kept" (T 3) kept, ent P "values" (T 4) values, ent P "classes" (T 5) classes]
noncomputable def aigE (P : Params) (T : Nat → Tok) (nodes inputs outputs table : Value) : List DictEntry := [ent P "nodes" (T 0) nodes, ent P "inputs" (T 1) inputs, ent P "outputs" (T 2) outputs, ent P "table" (T 3) table]
theorem sg_hd (P : Params) : hasDictIn (KK P) 439 = true := by kernel_rfl
theorem sg_sa (P : Params) : findIn (KK P) (.ref 439) (Str.ofString "__setattr__") = some (some (.builtin "object.__setattr__")) := by kernel_rfl
theorem sg_po (P : Params) : plainOver (KK P) 439 = true := by kernel_rfl
theorem sg_pg_aig (P : Params) : plainGet (KK P) 439 (Str.ofString "aig") = true := by kernel_rfl
theorem sg_fi_aig (P : Params) : findIn (KK P) (.ref 439) (Str.ofString "aig") = some none := by kernel_rfl
theorem sg_tk_aig (P : Params) : takerIn (KK P) 439 (Str.ofString "aig") = some none := by kernel_rfl
theorem sg_g_aig {P T} {va vc vr vk vv vl : Value} : getL (Str.ofString "aig") (sigE P T va vc vr vk vv vl) = some (some va) := by kernel_rfl
theorem sg_get_aig {F : Fx} {vs D} {Q : Value → List (Option Value) → Led → Prop} (ok : F.Ok) {x dx : Addr} {T n} {va vc vr vk vv vl : Value} {e : Bool} (h1 : (x, instObj 439 dx) ∈ D) (h2 : (dx, dictOf (sigE F.w.params T va vc vr vk vv vl) n) ∈ D) (hh : handedIn va = true) (h : Q va vs D) : HT F vs D (getAttr (.ref x) (Str.ofString "aig") e) Q :=
  get_ ok h1 h2 (sg_pg_aig _) (sg_hd _) (sg_fi_aig _) rfl sg_g_aig hh h
theorem sg_p_aig {P T} {va vc vr vk vv vl new : Value} {n : Nat} (t : Tok) : (putL (Str.ofString "aig") (PyData.keyHash P (Str.ofString "aig")) (.str (Str.ofString "aig") t) new (sigE P T va vc vr vk vv vl), putN (Str.ofString "aig") (sigE P T va vc vr vk vv vl) n) = (sigE P T new vc vr vk vv vl, n) := by kernel_rfl
theorem sg_set_aig {F : Fx} {vs D D'} {Q : Unit → List (Option Value) → Led → Prop} (ok : F.Ok) {x dx : Addr} {T n} {va vc vr vk vv vl new : Value} (h1 : (x, instObj 439 dx) ∈ D) (hu : Up dx (dictOf (sigE F.w.params T va vc vr vk vv vl) n) (dictOf (sigE F.w.params T new vc vr vk vv vl) n) D D') (h : Q () vs D') : HT F vs D (setAttr (.ref x) (Str.ofString "aig") new) Q :=
  set_ ok h1 hu (sg_sa _) (sg_po _) (sg_tk_aig _) (sg_hd _) (by rw [sg_g_aig]; rfl) sg_p_aig (by show 6 ≤ 1000; decide) h
theorem sg_pg_count (P : Params) : plainGet (KK P) 439 (Str.ofString "count") = true := by kernel_rfl
theorem sg_fi_count (P : Params) : findIn (KK P) (.ref 439) (Str.ofString "count") = some none := by kernel_rfl
theorem sg_tk_count (P : Params) : takerIn (KK P) 439 (Str.ofString "count") = some none := by kernel_rfl
theorem sg_g_count {P T} {va vc vr vk vv vl : Value} : getL (Str.ofString "count") (sigE P T va vc vr vk vv vl) = some (some vc) := by kernel_rfl
theorem sg_get_count {F : Fx} {vs D} {Q : Value → List (Option Value) → Led → Prop} (ok : F.Ok) {x dx : Addr} {T n} {va vc vr vk vv vl : Value} {e : Bool} (h1 : (x, instObj 439 dx) ∈ D) (h2 : (dx, dictOf (sigE F.w.params T va vc vr vk vv vl) n) ∈ D) (hh : handedIn vc = true) (h : Q vc vs D) : HT F vs D (getAttr (.ref x) (Str.ofString "count") e) Q :=
  get_ ok h1 h2 (sg_pg_count _) (sg_hd _) (sg_fi_count _) rfl sg_g_count hh h
theorem sg_p_count {P T} {va vc vr vk vv vl new : Value} {n : Nat} (t : Tok) : (putL (Str.ofString "count") (PyData.keyHash P (Str.ofString "count")) (.str (Str.ofString "count") t) new (sigE P T va vc vr vk vv vl), putN (Str.ofString "count") (sigE P T va vc vr vk vv vl) n) = (sigE P T va new vr vk vv vl, n) := by kernel_rfl
theorem sg_set_count {F : Fx} {vs D D'} {Q : Unit → List (Option Value) → Led → Prop} (ok : F.Ok) {x dx : Addr} {T n} {va vc vr vk vv vl new : Value} (h1 : (x, instObj 439 dx) ∈ D) (hu : Up dx (dictOf (sigE F.w.params T va vc vr vk vv vl) n) (dictOf (sigE F.w.params T va new vr vk vv vl) n) D D') (h : Q () vs D') : HT F vs D (setAttr (.ref x) (Str.ofString "count") new) Q :=
  set_ ok h1 hu (sg_sa _) (sg_po _) (sg_tk_count _) (sg_hd _) (by rw [sg_g_count]; rfl) sg_p_count (by show 6 ≤ 1000; decide) h
theorem sg_pg_rows (P : Params) : plainGet (KK P) 439 (Str.ofString "rows") = true := by kernel_rfl
theorem sg_fi_rows (P : Params) : findIn (KK P) (.ref 439) (Str.ofString "rows") = some none := by kernel_rfl
theorem sg_tk_rows (P : Params) : takerIn (KK P) 439 (Str.ofString "rows") = some none := by kernel_rfl
theorem sg_g_rows {P T} {va vc vr vk vv vl : Value} : getL (Str.ofString "rows") (sigE P T va vc vr vk vv vl) = some (some vr) := by kernel_rfl
theorem sg_get_rows {F : Fx} {vs D} {Q : Value → List (Option Value) → Led → Prop} (ok : F.Ok) {x dx : Addr} {T n} {va vc vr vk vv vl : Value} {e : Bool} (h1 : (x, instObj 439 dx) ∈ D) (h2 : (dx, dictOf (sigE F.w.params T va vc vr vk vv vl) n) ∈ D) (hh : handedIn vr = true) (h : Q vr vs D) : HT F vs D (getAttr (.ref x) (Str.ofString "rows") e) Q :=
  get_ ok h1 h2 (sg_pg_rows _) (sg_hd _) (sg_fi_rows _) rfl sg_g_rows hh h
theorem sg_p_rows {P T} {va vc vr vk vv vl new : Value} {n : Nat} (t : Tok) : (putL (Str.ofString "rows") (PyData.keyHash P (Str.ofString "rows")) (.str (Str.ofString "rows") t) new (sigE P T va vc vr vk vv vl), putN (Str.ofString "rows") (sigE P T va vc vr vk vv vl) n) = (sigE P T va vc new vk vv vl, n) := by kernel_rfl
theorem sg_set_rows {F : Fx} {vs D D'} {Q : Unit → List (Option Value) → Led → Prop} (ok : F.Ok) {x dx : Addr} {T n} {va vc vr vk vv vl new : Value} (h1 : (x, instObj 439 dx) ∈ D) (hu : Up dx (dictOf (sigE F.w.params T va vc vr vk vv vl) n) (dictOf (sigE F.w.params T va vc new vk vv vl) n) D D') (h : Q () vs D') : HT F vs D (setAttr (.ref x) (Str.ofString "rows") new) Q :=
  set_ ok h1 hu (sg_sa _) (sg_po _) (sg_tk_rows _) (sg_hd _) (by rw [sg_g_rows]; rfl) sg_p_rows (by show 6 ≤ 1000; decide) h
theorem sg_pg_kept (P : Params) : plainGet (KK P) 439 (Str.ofString "kept") = true := by kernel_rfl
theorem sg_fi_kept (P : Params) : findIn (KK P) (.ref 439) (Str.ofString "kept") = some none := by kernel_rfl
theorem sg_tk_kept (P : Params) : takerIn (KK P) 439 (Str.ofString "kept") = some none := by kernel_rfl
theorem sg_g_kept {P T} {va vc vr vk vv vl : Value} : getL (Str.ofString "kept") (sigE P T va vc vr vk vv vl) = some (some vk) := by kernel_rfl
theorem sg_get_kept {F : Fx} {vs D} {Q : Value → List (Option Value) → Led → Prop} (ok : F.Ok) {x dx : Addr} {T n} {va vc vr vk vv vl : Value} {e : Bool} (h1 : (x, instObj 439 dx) ∈ D) (h2 : (dx, dictOf (sigE F.w.params T va vc vr vk vv vl) n) ∈ D) (hh : handedIn vk = true) (h : Q vk vs D) : HT F vs D (getAttr (.ref x) (Str.ofString "kept") e) Q :=
  get_ ok h1 h2 (sg_pg_kept _) (sg_hd _) (sg_fi_kept _) rfl sg_g_kept hh h
theorem sg_p_kept {P T} {va vc vr vk vv vl new : Value} {n : Nat} (t : Tok) : (putL (Str.ofString "kept") (PyData.keyHash P (Str.ofString "kept")) (.str (Str.ofString "kept") t) new (sigE P T va vc vr vk vv vl), putN (Str.ofString "kept") (sigE P T va vc vr vk vv vl) n) = (sigE P T va vc vr new vv vl, n) := by kernel_rfl
theorem sg_set_kept {F : Fx} {vs D D'} {Q : Unit → List (Option Value) → Led → Prop} (ok : F.Ok) {x dx : Addr} {T n} {va vc vr vk vv vl new : Value} (h1 : (x, instObj 439 dx) ∈ D) (hu : Up dx (dictOf (sigE F.w.params T va vc vr vk vv vl) n) (dictOf (sigE F.w.params T va vc vr new vv vl) n) D D') (h : Q () vs D') : HT F vs D (setAttr (.ref x) (Str.ofString "kept") new) Q :=
  set_ ok h1 hu (sg_sa _) (sg_po _) (sg_tk_kept _) (sg_hd _) (by rw [sg_g_kept]; rfl) sg_p_kept (by show 6 ≤ 1000; decide) h
theorem sg_pg_values (P : Params) : plainGet (KK P) 439 (Str.ofString "values") = true := by kernel_rfl
theorem sg_fi_values (P : Params) : findIn (KK P) (.ref 439) (Str.ofString "values") = some none := by kernel_rfl
theorem sg_tk_values (P : Params) : takerIn (KK P) 439 (Str.ofString "values") = some none := by kernel_rfl
theorem sg_g_values {P T} {va vc vr vk vv vl : Value} : getL (Str.ofString "values") (sigE P T va vc vr vk vv vl) = some (some vv) := by kernel_rfl
theorem sg_get_values {F : Fx} {vs D} {Q : Value → List (Option Value) → Led → Prop} (ok : F.Ok) {x dx : Addr} {T n} {va vc vr vk vv vl : Value} {e : Bool} (h1 : (x, instObj 439 dx) ∈ D) (h2 : (dx, dictOf (sigE F.w.params T va vc vr vk vv vl) n) ∈ D) (hh : handedIn vv = true) (h : Q vv vs D) : HT F vs D (getAttr (.ref x) (Str.ofString "values") e) Q :=
  get_ ok h1 h2 (sg_pg_values _) (sg_hd _) (sg_fi_values _) rfl sg_g_values hh h
theorem sg_p_values {P T} {va vc vr vk vv vl new : Value} {n : Nat} (t : Tok) : (putL (Str.ofString "values") (PyData.keyHash P (Str.ofString "values")) (.str (Str.ofString "values") t) new (sigE P T va vc vr vk vv vl), putN (Str.ofString "values") (sigE P T va vc vr vk vv vl) n) = (sigE P T va vc vr vk new vl, n) := by kernel_rfl
theorem sg_set_values {F : Fx} {vs D D'} {Q : Unit → List (Option Value) → Led → Prop} (ok : F.Ok) {x dx : Addr} {T n} {va vc vr vk vv vl new : Value} (h1 : (x, instObj 439 dx) ∈ D) (hu : Up dx (dictOf (sigE F.w.params T va vc vr vk vv vl) n) (dictOf (sigE F.w.params T va vc vr vk new vl) n) D D') (h : Q () vs D') : HT F vs D (setAttr (.ref x) (Str.ofString "values") new) Q :=
  set_ ok h1 hu (sg_sa _) (sg_po _) (sg_tk_values _) (sg_hd _) (by rw [sg_g_values]; rfl) sg_p_values (by show 6 ≤ 1000; decide) h
theorem sg_pg_classes (P : Params) : plainGet (KK P) 439 (Str.ofString "classes") = true := by kernel_rfl
theorem sg_fi_classes (P : Params) : findIn (KK P) (.ref 439) (Str.ofString "classes") = some none := by kernel_rfl
theorem sg_tk_classes (P : Params) : takerIn (KK P) 439 (Str.ofString "classes") = some none := by kernel_rfl
theorem sg_g_classes {P T} {va vc vr vk vv vl : Value} : getL (Str.ofString "classes") (sigE P T va vc vr vk vv vl) = some (some vl) := by kernel_rfl
theorem sg_get_classes {F : Fx} {vs D} {Q : Value → List (Option Value) → Led → Prop} (ok : F.Ok) {x dx : Addr} {T n} {va vc vr vk vv vl : Value} {e : Bool} (h1 : (x, instObj 439 dx) ∈ D) (h2 : (dx, dictOf (sigE F.w.params T va vc vr vk vv vl) n) ∈ D) (hh : handedIn vl = true) (h : Q vl vs D) : HT F vs D (getAttr (.ref x) (Str.ofString "classes") e) Q :=
  get_ ok h1 h2 (sg_pg_classes _) (sg_hd _) (sg_fi_classes _) rfl sg_g_classes hh h
theorem sg_p_classes {P T} {va vc vr vk vv vl new : Value} {n : Nat} (t : Tok) : (putL (Str.ofString "classes") (PyData.keyHash P (Str.ofString "classes")) (.str (Str.ofString "classes") t) new (sigE P T va vc vr vk vv vl), putN (Str.ofString "classes") (sigE P T va vc vr vk vv vl) n) = (sigE P T va vc vr vk vv new, n) := by kernel_rfl
theorem sg_set_classes {F : Fx} {vs D D'} {Q : Unit → List (Option Value) → Led → Prop} (ok : F.Ok) {x dx : Addr} {T n} {va vc vr vk vv vl new : Value} (h1 : (x, instObj 439 dx) ∈ D) (hu : Up dx (dictOf (sigE F.w.params T va vc vr vk vv vl) n) (dictOf (sigE F.w.params T va vc vr vk vv new) n) D D') (h : Q () vs D') : HT F vs D (setAttr (.ref x) (Str.ofString "classes") new) Q :=
  set_ ok h1 hu (sg_sa _) (sg_po _) (sg_tk_classes _) (sg_hd _) (by rw [sg_g_classes]; rfl) sg_p_classes (by show 6 ≤ 1000; decide) h
theorem sg_mp_mask (P : Params) : plainGet (KK P) 439 (Str.ofString "mask") = true := by kernel_rfl
theorem sg_mf_mask (P : Params) : findIn (KK P) (.ref 439) (Str.ofString "mask") = some (some (.ref 401)) := by kernel_rfl
theorem sg_mn_mask (P : Params) : isFn (KK P) (.ref 401) = true := by kernel_rfl
theorem sg_mg_mask {P T} {va vc vr vk vv vl : Value} : getL (Str.ofString "mask") (sigE P T va vc vr vk vv vl) = some none := by kernel_rfl
theorem kp_401 (P : Params) : keepIn (KK P) (.ref 401) = true := by kernel_rfl
theorem sg_m_mask {F : Fx} {vs D} {Q : Value × List Value → List (Option Value) → Led → Prop} (ok : F.Ok) {x dx : Addr} {T n} {va vc vr vk vv vl : Value} {pl : Sem Bool} (h1 : (x, instObj 439 dx) ∈ D) (h2 : (dx, dictOf (sigE F.w.params T va vc vr vk vv vl) n) ∈ D) (h : Q (.ref 401, [.ref x]) vs D) : HT F vs D (getMethod (.ref x) (Str.ofString "mask") pl) Q :=
  meth_ ok h1 h2 (sg_mp_mask _) (sg_mf_mask _) (sg_mn_mask _) sg_mg_mask h
theorem sg_mp_refresh (P : Params) : plainGet (KK P) 439 (Str.ofString "refresh") = true := by kernel_rfl
theorem sg_mf_refresh (P : Params) : findIn (KK P) (.ref 439) (Str.ofString "refresh") = some (some (.ref 408)) := by kernel_rfl
theorem sg_mn_refresh (P : Params) : isFn (KK P) (.ref 408) = true := by kernel_rfl
theorem sg_mg_refresh {P T} {va vc vr vk vv vl : Value} : getL (Str.ofString "refresh") (sigE P T va vc vr vk vv vl) = some none := by kernel_rfl
theorem kp_408 (P : Params) : keepIn (KK P) (.ref 408) = true := by kernel_rfl
theorem sg_m_refresh {F : Fx} {vs D} {Q : Value × List Value → List (Option Value) → Led → Prop} (ok : F.Ok) {x dx : Addr} {T n} {va vc vr vk vv vl : Value} {pl : Sem Bool} (h1 : (x, instObj 439 dx) ∈ D) (h2 : (dx, dictOf (sigE F.w.params T va vc vr vk vv vl) n) ∈ D) (h : Q (.ref 408, [.ref x]) vs D) : HT F vs D (getMethod (.ref x) (Str.ofString "refresh") pl) Q :=
  meth_ ok h1 h2 (sg_mp_refresh _) (sg_mf_refresh _) (sg_mn_refresh _) sg_mg_refresh h
theorem sg_mp_normal (P : Params) : plainGet (KK P) 439 (Str.ofString "normal") = true := by kernel_rfl
theorem sg_mf_normal (P : Params) : findIn (KK P) (.ref 439) (Str.ofString "normal") = some (some (.ref 415)) := by kernel_rfl
theorem sg_mn_normal (P : Params) : isFn (KK P) (.ref 415) = true := by kernel_rfl
theorem sg_mg_normal {P T} {va vc vr vk vv vl : Value} : getL (Str.ofString "normal") (sigE P T va vc vr vk vv vl) = some none := by kernel_rfl
theorem kp_415 (P : Params) : keepIn (KK P) (.ref 415) = true := by kernel_rfl
theorem sg_m_normal {F : Fx} {vs D} {Q : Value × List Value → List (Option Value) → Led → Prop} (ok : F.Ok) {x dx : Addr} {T n} {va vc vr vk vv vl : Value} {pl : Sem Bool} (h1 : (x, instObj 439 dx) ∈ D) (h2 : (dx, dictOf (sigE F.w.params T va vc vr vk vv vl) n) ∈ D) (h : Q (.ref 415, [.ref x]) vs D) : HT F vs D (getMethod (.ref x) (Str.ofString "normal") pl) Q :=
  meth_ ok h1 h2 (sg_mp_normal _) (sg_mf_normal _) (sg_mn_normal _) sg_mg_normal h
theorem sg_mp_follow (P : Params) : plainGet (KK P) 439 (Str.ofString "follow") = true := by kernel_rfl
theorem sg_mf_follow (P : Params) : findIn (KK P) (.ref 439) (Str.ofString "follow") = some (some (.ref 422)) := by kernel_rfl
theorem sg_mn_follow (P : Params) : isFn (KK P) (.ref 422) = true := by kernel_rfl
theorem sg_mg_follow {P T} {va vc vr vk vv vl : Value} : getL (Str.ofString "follow") (sigE P T va vc vr vk vv vl) = some none := by kernel_rfl
theorem kp_422 (P : Params) : keepIn (KK P) (.ref 422) = true := by kernel_rfl
theorem sg_m_follow {F : Fx} {vs D} {Q : Value × List Value → List (Option Value) → Led → Prop} (ok : F.Ok) {x dx : Addr} {T n} {va vc vr vk vv vl : Value} {pl : Sem Bool} (h1 : (x, instObj 439 dx) ∈ D) (h2 : (dx, dictOf (sigE F.w.params T va vc vr vk vv vl) n) ∈ D) (h : Q (.ref 422, [.ref x]) vs D) : HT F vs D (getMethod (.ref x) (Str.ofString "follow") pl) Q :=
  meth_ ok h1 h2 (sg_mp_follow _) (sg_mf_follow _) (sg_mn_follow _) sg_mg_follow h
theorem sg_mp_keep (P : Params) : plainGet (KK P) 439 (Str.ofString "keep") = true := by kernel_rfl
theorem sg_mf_keep (P : Params) : findIn (KK P) (.ref 439) (Str.ofString "keep") = some (some (.ref 429)) := by kernel_rfl
theorem sg_mn_keep (P : Params) : isFn (KK P) (.ref 429) = true := by kernel_rfl
theorem sg_mg_keep {P T} {va vc vr vk vv vl : Value} : getL (Str.ofString "keep") (sigE P T va vc vr vk vv vl) = some none := by kernel_rfl
theorem kp_429 (P : Params) : keepIn (KK P) (.ref 429) = true := by kernel_rfl
theorem sg_m_keep {F : Fx} {vs D} {Q : Value × List Value → List (Option Value) → Led → Prop} (ok : F.Ok) {x dx : Addr} {T n} {va vc vr vk vv vl : Value} {pl : Sem Bool} (h1 : (x, instObj 439 dx) ∈ D) (h2 : (dx, dictOf (sigE F.w.params T va vc vr vk vv vl) n) ∈ D) (h : Q (.ref 429, [.ref x]) vs D) : HT F vs D (getMethod (.ref x) (Str.ofString "keep") pl) Q :=
  meth_ ok h1 h2 (sg_mp_keep _) (sg_mf_keep _) (sg_mn_keep _) sg_mg_keep h
theorem sg_mp_add_pattern (P : Params) : plainGet (KK P) 439 (Str.ofString "add_pattern") = true := by kernel_rfl
theorem sg_mf_add_pattern (P : Params) : findIn (KK P) (.ref 439) (Str.ofString "add_pattern") = some (some (.ref 436)) := by kernel_rfl
theorem sg_mn_add_pattern (P : Params) : isFn (KK P) (.ref 436) = true := by kernel_rfl
theorem sg_mg_add_pattern {P T} {va vc vr vk vv vl : Value} : getL (Str.ofString "add_pattern") (sigE P T va vc vr vk vv vl) = some none := by kernel_rfl
theorem kp_436 (P : Params) : keepIn (KK P) (.ref 436) = true := by kernel_rfl
theorem sg_m_add_pattern {F : Fx} {vs D} {Q : Value × List Value → List (Option Value) → Led → Prop} (ok : F.Ok) {x dx : Addr} {T n} {va vc vr vk vv vl : Value} {pl : Sem Bool} (h1 : (x, instObj 439 dx) ∈ D) (h2 : (dx, dictOf (sigE F.w.params T va vc vr vk vv vl) n) ∈ D) (h : Q (.ref 436, [.ref x]) vs D) : HT F vs D (getMethod (.ref x) (Str.ofString "add_pattern") pl) Q :=
  meth_ ok h1 h2 (sg_mp_add_pattern _) (sg_mf_add_pattern _) (sg_mn_add_pattern _) sg_mg_add_pattern h
theorem ag_hd (P : Params) : hasDictIn (KK P) 116 = true := by kernel_rfl
theorem ag_sa (P : Params) : findIn (KK P) (.ref 116) (Str.ofString "__setattr__") = some (some (.builtin "object.__setattr__")) := by kernel_rfl
theorem ag_po (P : Params) : plainOver (KK P) 116 = true := by kernel_rfl
theorem ag_pg_nodes (P : Params) : plainGet (KK P) 116 (Str.ofString "nodes") = true := by kernel_rfl
theorem ag_fi_nodes (P : Params) : findIn (KK P) (.ref 116) (Str.ofString "nodes") = some none := by kernel_rfl
theorem ag_tk_nodes (P : Params) : takerIn (KK P) 116 (Str.ofString "nodes") = some none := by kernel_rfl
theorem ag_g_nodes {P T} {vn vi vo vt : Value} : getL (Str.ofString "nodes") (aigE P T vn vi vo vt) = some (some vn) := by kernel_rfl
theorem ag_get_nodes {F : Fx} {vs D} {Q : Value → List (Option Value) → Led → Prop} (ok : F.Ok) {x dx : Addr} {T n} {vn vi vo vt : Value} {e : Bool} (h1 : (x, instObj 116 dx) ∈ D) (h2 : (dx, dictOf (aigE F.w.params T vn vi vo vt) n) ∈ D) (hh : handedIn vn = true) (h : Q vn vs D) : HT F vs D (getAttr (.ref x) (Str.ofString "nodes") e) Q :=
  get_ ok h1 h2 (ag_pg_nodes _) (ag_hd _) (ag_fi_nodes _) rfl ag_g_nodes hh h
theorem ag_p_nodes {P T} {vn vi vo vt new : Value} {n : Nat} (t : Tok) : (putL (Str.ofString "nodes") (PyData.keyHash P (Str.ofString "nodes")) (.str (Str.ofString "nodes") t) new (aigE P T vn vi vo vt), putN (Str.ofString "nodes") (aigE P T vn vi vo vt) n) = (aigE P T new vi vo vt, n) := by kernel_rfl
theorem ag_set_nodes {F : Fx} {vs D D'} {Q : Unit → List (Option Value) → Led → Prop} (ok : F.Ok) {x dx : Addr} {T n} {vn vi vo vt new : Value} (h1 : (x, instObj 116 dx) ∈ D) (hu : Up dx (dictOf (aigE F.w.params T vn vi vo vt) n) (dictOf (aigE F.w.params T new vi vo vt) n) D D') (h : Q () vs D') : HT F vs D (setAttr (.ref x) (Str.ofString "nodes") new) Q :=
  set_ ok h1 hu (ag_sa _) (ag_po _) (ag_tk_nodes _) (ag_hd _) (by rw [ag_g_nodes]; rfl) ag_p_nodes (by show 4 ≤ 1000; decide) h
theorem ag_pg_inputs (P : Params) : plainGet (KK P) 116 (Str.ofString "inputs") = true := by kernel_rfl
theorem ag_fi_inputs (P : Params) : findIn (KK P) (.ref 116) (Str.ofString "inputs") = some none := by kernel_rfl
theorem ag_tk_inputs (P : Params) : takerIn (KK P) 116 (Str.ofString "inputs") = some none := by kernel_rfl
theorem ag_g_inputs {P T} {vn vi vo vt : Value} : getL (Str.ofString "inputs") (aigE P T vn vi vo vt) = some (some vi) := by kernel_rfl
theorem ag_get_inputs {F : Fx} {vs D} {Q : Value → List (Option Value) → Led → Prop} (ok : F.Ok) {x dx : Addr} {T n} {vn vi vo vt : Value} {e : Bool} (h1 : (x, instObj 116 dx) ∈ D) (h2 : (dx, dictOf (aigE F.w.params T vn vi vo vt) n) ∈ D) (hh : handedIn vi = true) (h : Q vi vs D) : HT F vs D (getAttr (.ref x) (Str.ofString "inputs") e) Q :=
  get_ ok h1 h2 (ag_pg_inputs _) (ag_hd _) (ag_fi_inputs _) rfl ag_g_inputs hh h
theorem ag_p_inputs {P T} {vn vi vo vt new : Value} {n : Nat} (t : Tok) : (putL (Str.ofString "inputs") (PyData.keyHash P (Str.ofString "inputs")) (.str (Str.ofString "inputs") t) new (aigE P T vn vi vo vt), putN (Str.ofString "inputs") (aigE P T vn vi vo vt) n) = (aigE P T vn new vo vt, n) := by kernel_rfl
theorem ag_set_inputs {F : Fx} {vs D D'} {Q : Unit → List (Option Value) → Led → Prop} (ok : F.Ok) {x dx : Addr} {T n} {vn vi vo vt new : Value} (h1 : (x, instObj 116 dx) ∈ D) (hu : Up dx (dictOf (aigE F.w.params T vn vi vo vt) n) (dictOf (aigE F.w.params T vn new vo vt) n) D D') (h : Q () vs D') : HT F vs D (setAttr (.ref x) (Str.ofString "inputs") new) Q :=
  set_ ok h1 hu (ag_sa _) (ag_po _) (ag_tk_inputs _) (ag_hd _) (by rw [ag_g_inputs]; rfl) ag_p_inputs (by show 4 ≤ 1000; decide) h
theorem ag_pg_outputs (P : Params) : plainGet (KK P) 116 (Str.ofString "outputs") = true := by kernel_rfl
theorem ag_fi_outputs (P : Params) : findIn (KK P) (.ref 116) (Str.ofString "outputs") = some none := by kernel_rfl
theorem ag_tk_outputs (P : Params) : takerIn (KK P) 116 (Str.ofString "outputs") = some none := by kernel_rfl
theorem ag_g_outputs {P T} {vn vi vo vt : Value} : getL (Str.ofString "outputs") (aigE P T vn vi vo vt) = some (some vo) := by kernel_rfl
theorem ag_get_outputs {F : Fx} {vs D} {Q : Value → List (Option Value) → Led → Prop} (ok : F.Ok) {x dx : Addr} {T n} {vn vi vo vt : Value} {e : Bool} (h1 : (x, instObj 116 dx) ∈ D) (h2 : (dx, dictOf (aigE F.w.params T vn vi vo vt) n) ∈ D) (hh : handedIn vo = true) (h : Q vo vs D) : HT F vs D (getAttr (.ref x) (Str.ofString "outputs") e) Q :=
  get_ ok h1 h2 (ag_pg_outputs _) (ag_hd _) (ag_fi_outputs _) rfl ag_g_outputs hh h
theorem ag_p_outputs {P T} {vn vi vo vt new : Value} {n : Nat} (t : Tok) : (putL (Str.ofString "outputs") (PyData.keyHash P (Str.ofString "outputs")) (.str (Str.ofString "outputs") t) new (aigE P T vn vi vo vt), putN (Str.ofString "outputs") (aigE P T vn vi vo vt) n) = (aigE P T vn vi new vt, n) := by kernel_rfl
theorem ag_set_outputs {F : Fx} {vs D D'} {Q : Unit → List (Option Value) → Led → Prop} (ok : F.Ok) {x dx : Addr} {T n} {vn vi vo vt new : Value} (h1 : (x, instObj 116 dx) ∈ D) (hu : Up dx (dictOf (aigE F.w.params T vn vi vo vt) n) (dictOf (aigE F.w.params T vn vi new vt) n) D D') (h : Q () vs D') : HT F vs D (setAttr (.ref x) (Str.ofString "outputs") new) Q :=
  set_ ok h1 hu (ag_sa _) (ag_po _) (ag_tk_outputs _) (ag_hd _) (by rw [ag_g_outputs]; rfl) ag_p_outputs (by show 4 ≤ 1000; decide) h
theorem ag_pg_table (P : Params) : plainGet (KK P) 116 (Str.ofString "table") = true := by kernel_rfl
theorem ag_fi_table (P : Params) : findIn (KK P) (.ref 116) (Str.ofString "table") = some none := by kernel_rfl
theorem ag_tk_table (P : Params) : takerIn (KK P) 116 (Str.ofString "table") = some none := by kernel_rfl
theorem ag_g_table {P T} {vn vi vo vt : Value} : getL (Str.ofString "table") (aigE P T vn vi vo vt) = some (some vt) := by kernel_rfl
theorem ag_get_table {F : Fx} {vs D} {Q : Value → List (Option Value) → Led → Prop} (ok : F.Ok) {x dx : Addr} {T n} {vn vi vo vt : Value} {e : Bool} (h1 : (x, instObj 116 dx) ∈ D) (h2 : (dx, dictOf (aigE F.w.params T vn vi vo vt) n) ∈ D) (hh : handedIn vt = true) (h : Q vt vs D) : HT F vs D (getAttr (.ref x) (Str.ofString "table") e) Q :=
  get_ ok h1 h2 (ag_pg_table _) (ag_hd _) (ag_fi_table _) rfl ag_g_table hh h
theorem ag_p_table {P T} {vn vi vo vt new : Value} {n : Nat} (t : Tok) : (putL (Str.ofString "table") (PyData.keyHash P (Str.ofString "table")) (.str (Str.ofString "table") t) new (aigE P T vn vi vo vt), putN (Str.ofString "table") (aigE P T vn vi vo vt) n) = (aigE P T vn vi vo new, n) := by kernel_rfl
theorem ag_set_table {F : Fx} {vs D D'} {Q : Unit → List (Option Value) → Led → Prop} (ok : F.Ok) {x dx : Addr} {T n} {vn vi vo vt new : Value} (h1 : (x, instObj 116 dx) ∈ D) (hu : Up dx (dictOf (aigE F.w.params T vn vi vo vt) n) (dictOf (aigE F.w.params T vn vi vo new) n) D D') (h : Q () vs D') : HT F vs D (setAttr (.ref x) (Str.ofString "table") new) Q :=
  set_ ok h1 hu (ag_sa _) (ag_po _) (ag_tk_table _) (ag_hd _) (by rw [ag_g_table]; rfl) ag_p_table (by show 4 ≤ 1000; decide) h
theorem ag_mp_add_input (P : Params) : plainGet (KK P) 116 (Str.ofString "add_input") = true := by kernel_rfl
theorem ag_mf_add_input (P : Params) : findIn (KK P) (.ref 116) (Str.ofString "add_input") = some (some (.ref 42)) := by kernel_rfl
theorem ag_mn_add_input (P : Params) : isFn (KK P) (.ref 42) = true := by kernel_rfl
theorem ag_mg_add_input {P T} {vn vi vo vt : Value} : getL (Str.ofString "add_input") (aigE P T vn vi vo vt) = some none := by kernel_rfl
theorem kp_42 (P : Params) : keepIn (KK P) (.ref 42) = true := by kernel_rfl
theorem ag_m_add_input {F : Fx} {vs D} {Q : Value × List Value → List (Option Value) → Led → Prop} (ok : F.Ok) {x dx : Addr} {T n} {vn vi vo vt : Value} {pl : Sem Bool} (h1 : (x, instObj 116 dx) ∈ D) (h2 : (dx, dictOf (aigE F.w.params T vn vi vo vt) n) ∈ D) (h : Q (.ref 42, [.ref x]) vs D) : HT F vs D (getMethod (.ref x) (Str.ofString "add_input") pl) Q :=
  meth_ ok h1 h2 (ag_mp_add_input _) (ag_mf_add_input _) (ag_mn_add_input _) ag_mg_add_input h
theorem ag_mp_is_and (P : Params) : plainGet (KK P) 116 (Str.ofString "is_and") = true := by kernel_rfl
theorem ag_mf_is_and (P : Params) : findIn (KK P) (.ref 116) (Str.ofString "is_and") = some (some (.ref 56)) := by kernel_rfl
theorem ag_mn_is_and (P : Params) : isFn (KK P) (.ref 56) = true := by kernel_rfl
theorem ag_mg_is_and {P T} {vn vi vo vt : Value} : getL (Str.ofString "is_and") (aigE P T vn vi vo vt) = some none := by kernel_rfl
theorem kp_56 (P : Params) : keepIn (KK P) (.ref 56) = true := by kernel_rfl
theorem ag_m_is_and {F : Fx} {vs D} {Q : Value × List Value → List (Option Value) → Led → Prop} (ok : F.Ok) {x dx : Addr} {T n} {vn vi vo vt : Value} {pl : Sem Bool} (h1 : (x, instObj 116 dx) ∈ D) (h2 : (dx, dictOf (aigE F.w.params T vn vi vo vt) n) ∈ D) (h : Q (.ref 56, [.ref x]) vs D) : HT F vs D (getMethod (.ref x) (Str.ofString "is_and") pl) Q :=
  meth_ ok h1 h2 (ag_mp_is_and _) (ag_mf_is_and _) (ag_mn_is_and _) ag_mg_is_and h
theorem ag_mp_land (P : Params) : plainGet (KK P) 116 (Str.ofString "land") = true := by kernel_rfl
theorem ag_mf_land (P : Params) : findIn (KK P) (.ref 116) (Str.ofString "land") = some (some (.ref 63)) := by kernel_rfl
theorem ag_mn_land (P : Params) : isFn (KK P) (.ref 63) = true := by kernel_rfl
theorem ag_mg_land {P T} {vn vi vo vt : Value} : getL (Str.ofString "land") (aigE P T vn vi vo vt) = some none := by kernel_rfl
theorem kp_63 (P : Params) : keepIn (KK P) (.ref 63) = true := by kernel_rfl
theorem ag_m_land {F : Fx} {vs D} {Q : Value × List Value → List (Option Value) → Led → Prop} (ok : F.Ok) {x dx : Addr} {T n} {vn vi vo vt : Value} {pl : Sem Bool} (h1 : (x, instObj 116 dx) ∈ D) (h2 : (dx, dictOf (aigE F.w.params T vn vi vo vt) n) ∈ D) (h : Q (.ref 63, [.ref x]) vs D) : HT F vs D (getMethod (.ref x) (Str.ofString "land") pl) Q :=
  meth_ ok h1 h2 (ag_mp_land _) (ag_mf_land _) (ag_mn_land _) ag_mg_land h
theorem ag_mp_value (P : Params) : plainGet (KK P) 116 (Str.ofString "value") = true := by kernel_rfl
theorem ag_mf_value (P : Params) : findIn (KK P) (.ref 116) (Str.ofString "value") = some (some (.ref 113)) := by kernel_rfl
theorem ag_mn_value (P : Params) : isFn (KK P) (.ref 113) = true := by kernel_rfl
theorem ag_mg_value {P T} {vn vi vo vt : Value} : getL (Str.ofString "value") (aigE P T vn vi vo vt) = some none := by kernel_rfl
theorem kp_113 (P : Params) : keepIn (KK P) (.ref 113) = true := by kernel_rfl
theorem ag_m_value {F : Fx} {vs D} {Q : Value × List Value → List (Option Value) → Led → Prop} (ok : F.Ok) {x dx : Addr} {T n} {vn vi vo vt : Value} {pl : Sem Bool} (h1 : (x, instObj 116 dx) ∈ D) (h2 : (dx, dictOf (aigE F.w.params T vn vi vo vt) n) ∈ D) (h : Q (.ref 113, [.ref x]) vs D) : HT F vs D (getMethod (.ref x) (Str.ofString "value") pl) Q :=
  meth_ ok h1 h2 (ag_mp_value _) (ag_mf_value _) (ag_mn_value _) ag_mg_value h
theorem nm_literal_word (P : Params) : nsIn (KK P) mainGlobals (Str.ofString "literal_word") = some (some (.ref 127)) := by kernel_rfl
theorem kp_127 (P : Params) : keepIn (KK P) (.ref 127) = true := by kernel_rfl
theorem nm_full_table (P : Params) : nsIn (KK P) mainGlobals (Str.ofString "full_table") = some (some (.ref 333)) := by kernel_rfl
theorem kp_333 (P : Params) : keepIn (KK P) (.ref 333) = true := by kernel_rfl
theorem nm_var_table (P : Params) : nsIn (KK P) mainGlobals (Str.ofString "var_table") = some (some (.ref 340)) := by kernel_rfl
theorem kp_340 (P : Params) : keepIn (KK P) (.ref 340) = true := by kernel_rfl
theorem nm_low_bit (P : Params) : nsIn (KK P) mainGlobals (Str.ofString "low_bit") = some (some (.ref 347)) := by kernel_rfl
theorem kp_347 (P : Params) : keepIn (KK P) (.ref 347) = true := by kernel_rfl
theorem nm_cone_nodes_equiv (P : Params) : nsIn (KK P) mainGlobals (Str.ofString "cone_nodes_equiv") = some (some (.ref 354)) := by kernel_rfl
theorem kp_354 (P : Params) : keepIn (KK P) (.ref 354) = true := by kernel_rfl
theorem nm_cone_inputs (P : Params) : nsIn (KK P) mainGlobals (Str.ofString "cone_inputs") = some (some (.ref 359)) := by kernel_rfl
theorem kp_359 (P : Params) : keepIn (KK P) (.ref 359) = true := by kernel_rfl
theorem nm_cone_words (P : Params) : nsIn (KK P) mainGlobals (Str.ofString "cone_words") = some (some (.ref 366)) := by kernel_rfl
theorem kp_366 (P : Params) : keepIn (KK P) (.ref 366) = true := by kernel_rfl
theorem nm_table_difference (P : Params) : nsIn (KK P) mainGlobals (Str.ofString "table_difference") = some (some (.ref 373)) := by kernel_rfl
theorem kp_373 (P : Params) : keepIn (KK P) (.ref 373) = true := by kernel_rfl
theorem nm_pattern_count (P : Params) : nsIn (KK P) mainGlobals (Str.ofString "pattern_count") = some (some (.ref 380)) := by kernel_rfl
theorem kp_380 (P : Params) : keepIn (KK P) (.ref 380) = true := by kernel_rfl
theorem nm_parting (P : Params) : nsIn (KK P) mainGlobals (Str.ofString "parting") = some (some (.ref 457)) := by kernel_rfl
theorem kp_457 (P : Params) : keepIn (KK P) (.ref 457) = true := by kernel_rfl
theorem nm_next_candidate (P : Params) : nsIn (KK P) mainGlobals (Str.ofString "next_candidate") = some (some (.ref 464)) := by kernel_rfl
theorem kp_464 (P : Params) : keepIn (KK P) (.ref 464) = true := by kernel_rfl
theorem nm_equal_literal (P : Params) : nsIn (KK P) mainGlobals (Str.ofString "equal_literal") = some (some (.ref 471)) := by kernel_rfl
theorem kp_471 (P : Params) : keepIn (KK P) (.ref 471) = true := by kernel_rfl
theorem nm_settle_node (P : Params) : nsIn (KK P) mainGlobals (Str.ofString "settle_node") = some (some (.ref 478)) := by kernel_rfl
theorem kp_478 (P : Params) : keepIn (KK P) (.ref 478) = true := by kernel_rfl
theorem nm_law_pick (P : Params) : nsIn (KK P) mainGlobals (Str.ofString "_law_pick") = some (some (.ref 485)) := by kernel_rfl
theorem kp_485 (P : Params) : keepIn (KK P) (.ref 485) = true := by kernel_rfl
theorem nm_law_column (P : Params) : nsIn (KK P) mainGlobals (Str.ofString "_law_column") = some (some (.ref 492)) := by kernel_rfl
theorem kp_492 (P : Params) : keepIn (KK P) (.ref 492) = true := by kernel_rfl
theorem nm_law_settled (P : Params) : nsIn (KK P) mainGlobals (Str.ofString "_law_settled") = some (some (.ref 499)) := by kernel_rfl
theorem kp_499 (P : Params) : keepIn (KK P) (.ref 499) = true := by kernel_rfl
theorem nm_Aig (P : Params) : nsIn (KK P) mainGlobals (Str.ofString "Aig") = some (some (.ref 116)) := by kernel_rfl
theorem kp_116 (P : Params) : keepIn (KK P) (.ref 116) = true := by kernel_rfl
theorem nm_Signatures (P : Params) : nsIn (KK P) mainGlobals (Str.ofString "Signatures") = some (some (.ref 439)) := by kernel_rfl
theorem kp_439 (P : Params) : keepIn (KK P) (.ref 439) = true := by kernel_rfl
theorem nm_TABLE_INPUTS (P : Params) : nsIn (KK P) mainGlobals (Str.ofString "TABLE_INPUTS") = some (some (.int 6 714)) := by kernel_rfl
theorem nb_len (P : Params) : nsIn (KK P) mainGlobals (Str.ofString "len") = some none := by kernel_rfl
theorem nb_range (P : Params) : nsIn (KK P) mainGlobals (Str.ofString "range") = some none := by kernel_rfl
theorem nb_max (P : Params) : nsIn (KK P) mainGlobals (Str.ofString "max") = some none := by kernel_rfl
theorem nb_min (P : Params) : nsIn (KK P) mainGlobals (Str.ofString "min") = some none := by kernel_rfl
theorem nb_sorted (P : Params) : nsIn (KK P) mainGlobals (Str.ofString "sorted") = some none := by kernel_rfl
theorem nb_list (P : Params) : nsIn (KK P) mainGlobals (Str.ofString "list") = some none := by kernel_rfl
theorem nb_int (P : Params) : nsIn (KK P) mainGlobals (Str.ofString "int") = some none := by kernel_rfl
-- L9
theorem bite {c : Bool} {P Q : Prop} (h1 : c = true → P) (h2 : c = false → Q) : if c = true then P else Q := by
  cases c
  · exact h2 rfl
  · exact h1 rfl
section
variable {F : Fx} {vs vs' : List (Option Value)} {D D' : Led} {s : Shared}
variable {Q : Value → List (Option Value) → Led → Prop} {QU : Unit → List (Option Value) → Led → Prop} {QB : Bool → List (Option Value) → Led → Prop} {QF : Flow → List (Option Value) → Led → Prop}
theorem IntL_ {n : Nat} {k pos} (h : ∀ t, Q (VN (@OfNat.ofNat Nat n (instOfNatNat n)) t) vs D) : HT F vs D (eval (.Constant (.int (@OfNat.ofNat Int n (@instOfNat n))) k pos) F.env) Q := Int_ h
theorem eqN_ {a b : Nat} {t u : Tok} (h : Q (.bool (decide (a = b))) vs D) : HT F vs D (compareOp .Eq (VN a t) (VN b u)) Q := fun s hs => eq_int ⟨_, _, hs, by
  have e : ((a : Int) == (b : Int)) = decide (a = b) := by rw [Bool.eq_iff_iff, beq_iff_eq, decide_eq_true_eq]; exact Int.ofNat_inj
  rw [e]; exact h⟩
theorem neN_ {a b : Nat} {t u : Tok} (h : Q (.bool (!decide (a = b))) vs D) : HT F vs D (compareOp .NotEq (VN a t) (VN b u)) Q := fun s hs => ne_int ⟨_, _, hs, by
  have e : ((a : Int) != (b : Int)) = !decide (a = b) := by
    have e : ((a : Int) == (b : Int)) = decide (a = b) := by rw [Bool.eq_iff_iff, beq_iff_eq, decide_eq_true_eq]; exact Int.ofNat_inj
    show (!((a : Int) == (b : Int))) = _
    rw [e]
  rw [e]; exact h⟩
theorem ltN_ {a b : Nat} {t u : Tok} (h : Q (.bool (decide (a < b))) vs D) : HT F vs D (compareOp .Lt (VN a t) (VN b u)) Q := fun s hs => lt_int ⟨_, _, hs, by
  have e : decide ((a : Int) < (b : Int)) = decide (a < b) := by rw [Bool.eq_iff_iff]; simp
  rw [e]; exact h⟩
theorem gtN_ {a b : Nat} {t u : Tok} (h : Q (.bool (decide (b < a))) vs D) : HT F vs D (compareOp .Gt (VN a t) (VN b u)) Q := fun s hs => gt_int ⟨_, _, hs, by
  have e : decide ((b : Int) < (a : Int)) = decide (b < a) := by rw [Bool.eq_iff_iff]; simp
  rw [e]; exact h⟩
theorem leN_ {a b : Nat} {t u : Tok} (h : Q (.bool (decide (a ≤ b))) vs D) : HT F vs D (compareOp .LtE (VN a t) (VN b u)) Q := fun s hs => le_int ⟨_, _, hs, by
  have e : decide ((a : Int) ≤ (b : Int)) = decide (a ≤ b) := by rw [Bool.eq_iff_iff]; simp
  rw [e]; exact h⟩
theorem geN_ {a b : Nat} {t u : Tok} (h : Q (.bool (decide (b ≤ a))) vs D) : HT F vs D (compareOp .GtE (VN a t) (VN b u)) Q := fun s hs => ge_int ⟨_, _, hs, by
  have e : decide ((b : Int) ≤ (a : Int)) = decide (b ≤ a) := by rw [Bool.eq_iff_iff]; simp
  rw [e]; exact h⟩
/-- the callee's value is handed on -/
theorem callF_ {f : Addr} {args : List Value} {P : Value → Led → Prop} (h : HT F vs D (call (.ref f) args) fun v vs' D' => vs' = vs ∧ P v D') (k : ∀ v D', P v D' → Q v vs D') : HT F vs D (call (.ref f) args) Q :=
  h.mono fun v vs' D' ⟨e, p⟩ => by subst e; exact k v D' p
end
/-- the callables that the text keeps -/
noncomputable def kpl : List Nat := [127, 333, 340, 347, 354, 359, 366, 373, 380, 457, 464, 471, 478, 485, 492, 499, 401, 408, 415, 422, 429, 436, 42, 56, 63, 113, 116, 439]
theorem kp_ok (P : Params) : kpl.all (fun a => keepIn (KK P) (.ref a)) = true := by kernel_rfl
theorem kp_all {P : Params} {a : Addr} (h : kpl.contains a = true) : keepIn (KK P) (.ref a) = true :=
  List.all_eq_true.mp (kp_ok P) a (List.contains_iff_mem.mp h)
-- L10
/-- the place of an object in the ledger, and the ledger with another object there -/
inductive Zip (a : Addr) (o : Obj) : Led → (Obj → Led) → Prop
  | head {r} : Zip a o ((a, o) :: r) (fun o' => (a, o') :: r)
  | tail {p r f} : Zip a o r f → Zip a o (p :: r) (fun o' => p :: f o')
theorem Zip.up {a o D f} (h : Zip a o D f) (o' : Obj) : Up a o o' D (f o') := by
  induction h with
  | head => exact .head
  | tail _ ih => exact .tail ih
theorem Zip.mem {a o D f} (h : Zip a o D f) : (a, o) ∈ D := (h.up o).mem
theorem Zip.app {a o D f} (h : Zip a o D f) (E : Led) : Zip a o (D ++ E) (fun o' => f o' ++ E) := by
  induction h with
  | head => exact .head
  | tail _ ih => exact .tail ih
theorem Zip.skip {a o D f} (h : Zip a o D f) (E : Led) : Zip a o (E ++ D) (fun o' => E ++ f o') := by
  induction E with
  | nil => exact h
  | cons p E ih => exact .tail ih
/-- values that are the given natural numbers -/
inductive NA : List Value → List Nat → Prop
  | nil : NA [] []
  | cons {n t vs ns} : NA vs ns → NA (VN n t :: vs) (n :: ns)
theorem NA.len {vs ns} (h : NA vs ns) : vs.length = ns.length := by
  induction h with
  | nil => rfl
  | cons _ ih => simp [ih]
theorem NA.get {vs ns} (h : NA vs ns) : ∀ {i : Nat} {n : Nat}, ns[i]? = some n → ∃ t, vs[i]? = some (VN n t) := by
  induction h with
  | nil => intro i n h; simp at h
  | @cons n t vs ns _ ih =>
    intro i m h
    cases i with
    | zero => simp at h; subst h; exact ⟨t, rfl⟩
    | succ i => simpa using ih (by simpa using h)
theorem NA.of {vs ns} (h : NA vs ns) : ∀ {i : Nat} {v : Value}, vs[i]? = some v → ∃ n t, ns[i]? = some n ∧ v = VN n t := by
  induction h with
  | nil => intro i n h; simp at h
  | @cons n t vs ns _ ih =>
    intro i v h
    cases i with
    | zero => simp at h; subst h; exact ⟨n, t, rfl, rfl⟩
    | succ i => simpa using ih (by simpa using h)
theorem NA.app {vs ns vs' ns'} (h : NA vs ns) (h' : NA vs' ns') : NA (vs ++ vs') (ns ++ ns') := by
  induction h with
  | nil => exact h'
  | cons _ ih => exact .cons ih
theorem NA.snoc {vs ns n t} (h : NA vs ns) : NA (vs ++ [VN n t]) (ns ++ [n]) := h.app (.cons .nil)
theorem NA.set {vs ns} (h : NA vs ns) : ∀ {i n : Nat} {t : Tok}, NA (vs.set i (VN n t)) (ns.set i n) := by
  induction h with
  | nil => intro i n t; exact .nil
  | @cons n t vs ns h ih =>
    intro i m u
    cases i with
    | zero => exact .cons h
    | succ i => exact .cons ih
theorem NA.dropLast {vs ns} (h : NA vs ns) : NA vs.dropLast ns.dropLast := by
  induction h with
  | nil => exact .nil
  | @cons n t vs ns h ih =>
    cases h with
    | nil => exact .nil
    | cons h => exact .cons ih
theorem NA.rep (n k : Nat) (t : Tok) : NA (List.replicate k (VN n t)) (List.replicate k n) := by
  induction k with
  | zero => exact .nil
  | succ k ih => exact .cons ih
theorem NA.ints {vs ns} (h : NA vs ns) : IntsAre vs (ns.map Int.ofNat) := by
  induction h with
  | nil => exact .nil
  | cons _ ih => exact .cons _ _ ih
/-- an int list -/
noncomputable def IL (o : Obj) (ws : List Nat) : Prop := ∃ (its : List Value) (n : Nat), o = W.listOf its.toArray n ∧ NA its ws
/-- the value of a node's place: None, or a pair that the ledger keeps -/
noncomputable def PV (R : Led) (v : Value) : Option (Nat × Nat) → Prop
  | none => v = .none
  | some p => ∃ b t u, v = .ref b ∧ (b, tupOf [VN p.1 t, VN p.2 u]) ∈ R
theorem PV.mono {R R' v p} (h : PV R v p) (hs : ∀ x ∈ R, x ∈ R') : PV R' v p := by
  cases p with
  | none => exact h
  | some p => obtain ⟨b, t, u, e, m⟩ := h; exact ⟨b, t, u, e, hs _ m⟩
noncomputable def NL (R : Led) (o : Obj) (ps : List (Option (Nat × Nat))) : Prop := ∃ (its : List Value) (n : Nat), o = W.listOf its.toArray n ∧ its.length = ps.length ∧ ∀ (i : Nat) (p : Option (Nat × Nat)), ps[i]? = some p → ∃ v, its[i]? = some v ∧ PV R v p
theorem NL.mono {R R' o ps} (h : NL R o ps) (hs : ∀ x ∈ R, x ∈ R') : NL R' o ps := by
  obtain ⟨its, n, e, hl, hp⟩ := h
  exact ⟨its, n, e, hl, fun i p hi => let ⟨v, h1, h2⟩ := hp i p hi; ⟨v, h1, h2.mono hs⟩⟩
/-- a table from ints to naturals: a list or a dict -/
noncomputable def Tb (w : World) (D : Led) (o : Value) (j n : Nat) : Prop :=
  (∃ l b ws, o = .ref l ∧ (l, b) ∈ D ∧ IL b ws ∧ ws[j]? = some n ∧ j < 2 ^ 62) ∨ ∃ d b kvs t, o = .ref d ∧ (d, b) ∈ D ∧ DI w b kvs ∧ valueAt kvs (j : Int) = some (VN n t)
section
variable {F : Fx} {vs : List (Option Value)} {D D' : Led} {s : Shared}
variable {Q : Value → List (Option Value) → Led → Prop} {QU : Unit → List (Option Value) → Led → Prop} {QB : Bool → List (Option Value) → Led → Prop} {QF : Flow → List (Option Value) → Led → Prop} {QM : Value × List Value → List (Option Value) → Led → Prop}
theorem newIL_ {l : List Value} {ws : List Nat} (hn : NA l ws) (h : ∀ a o, IL o ws → (∀ p ∈ D, p.1 ≠ a) → Q (.ref a) vs ((a, o) :: D)) (hz : l.length ≤ sizeLine := by decide) : HT F vs D (newList l) Q :=
  newList_ (fun a ha => h a _ ⟨l, 0, rfl, hn⟩ ha) hz
theorem len_il {l : Addr} {o : Obj} {ws : List Nat} (hm : (l, o) ∈ D) (hi : IL o ws) (hf : ws.length < 2 ^ 62) (h : ∀ t, Q (VN ws.length t) vs D) : HT F vs D (call (.builtin "len") [.ref l]) Q := by
  obtain ⟨its, n, rfl, ha⟩ := hi
  have e := ha.len
  exact len_list_ hm (by simp; omega) fun t => by simpa [e] using h t
theorem len_nl {l : Addr} {o : Obj} {R : Led} {ws : List (Option (Nat × Nat))} (hm : (l, o) ∈ D) (hi : NL R o ws) (hf : ws.length < 2 ^ 62) (h : ∀ t, Q (VN ws.length t) vs D) : HT F vs D (call (.builtin "len") [.ref l]) Q := by
  obtain ⟨its, n, rfl, e, _⟩ := hi
  exact len_list_ hm (by simp; omega) fun t => by simpa [e] using h t
theorem item_il {l : Addr} {o : Obj} {ws : List Nat} {k n : Nat} {u : Tok} (hm : (l, o) ∈ D) (hi : IL o ws) (hx : ws[k]? = some n) (hf : k < 2 ^ 62) (h : ∀ t, Q (VN n t) vs D) : HT F vs D (getItem (.ref l) (VN k u)) Q := by
  obtain ⟨its, m, rfl, ha⟩ := hi
  obtain ⟨t, ht⟩ := ha.get hx
  exact item_list_ hm (by omega) (by omega) (by simpa using ht) (h t)
theorem tail_il {value slice : PySem.Expr} {l : Addr} {o : Obj} {ws : List Nat} {k n : Nat} {u : Tok} (hm : (l, o) ∈ D) (hi : IL o ws) (hx : ws[k]? = some n) (hf : k < 2 ^ 62) (h : ∀ t, Q (VN n t) vs D)
    (hs : subscripted slice false (.ref l) (VN k u) = operate [.ref l, VN k u] (getItem (.ref l) (VN k u)) := by with_unfolding_all rfl) : HT F vs D (subscriptTail value slice (.ref l) (VN k u)) Q := by
  obtain ⟨its, m, rfl, ha⟩ := hi
  obtain ⟨t, ht⟩ := ha.get hx
  exact tail_list_ hm (by omega) (by omega) (by simpa using ht) (h t) hs
theorem tail_nl {value slice : PySem.Expr} {l : Addr} {o : Obj} {R : Led} {ps : List (Option (Nat × Nat))} {k : Nat} {p} {u : Tok} (hm : (l, o) ∈ D) (hi : NL R o ps) (hx : ps[k]? = some p) (hf : k < 2 ^ 62) (h : ∀ v, PV R v p → Q v vs D)
    (hs : subscripted slice false (.ref l) (VN k u) = operate [.ref l, VN k u] (getItem (.ref l) (VN k u)) := by with_unfolding_all rfl) : HT F vs D (subscriptTail value slice (.ref l) (VN k u)) Q := by
  obtain ⟨its, m, rfl, _, ha⟩ := hi
  obtain ⟨v, ht, hp⟩ := ha _ _ hx
  exact tail_list_ hm (by omega) (by omega) (by simpa using ht) (h v hp) hs
theorem tail_tb {value slice : PySem.Expr} {o : Value} {k n : Nat} {u : Tok} (ht : Tb F.w D o k n) (h : ∀ t, Q (VN n t) vs D)
    (hs : ∀ l, subscripted slice false (.ref l) (VN k u) = operate [.ref l, VN k u] (getItem (.ref l) (VN k u)) := by intro _; with_unfolding_all rfl) : HT F vs D (subscriptTail value slice o (VN k u)) Q := by
  obtain ⟨l, b, ws, rfl, hm, hi, hx, hf⟩ | ⟨d, b, kvs, t, rfl, hm, hd, hv⟩ := ht
  · exact tail_il hm hi hx hf h (hs _)
  · exact tail_d hm hd hv (h t) (hs _)
theorem setItem_il {l : Addr} {o : Obj} {ws : List Nat} {k n : Nat} {u t : Tok} {f : Obj → Led} (hz : Zip l o D f) (hi : IL o ws) (hk : k < ws.length) (hf : k < 2 ^ 62) (h : ∀ o', IL o' (ws.set k n) → QU () vs (f o')) : HT F vs D (setItem (.ref l) (VN k u) (VN n t)) QU := by
  obtain ⟨its, m, rfl, ha⟩ := hi
  exact setItem_list_ (hz.up _) (by omega) (by omega) (by have := ha.len; omega) (h _ ⟨_, m, rfl, by simpa using ha.set⟩)
theorem append_il {l : Addr} {o : Obj} {ws : List Nat} {n : Nat} {t : Tok} {f : Obj → Led} (hz : Zip l o D f) (hi : IL o ws) (hf : ws.length ≤ sizeLine) (h : ∀ o', IL o' (ws ++ [n]) → Q .none vs (f o')) : HT F vs D (call (.builtin "list.append") [.ref l, VN n t]) Q := by
  obtain ⟨its, m, rfl, ha⟩ := hi
  exact append_ (hz.up _) (by have := ha.len; omega) (h _ ⟨_, _, rfl, ha.snoc⟩)
theorem append_nl {l : Addr} {o : Obj} {R : Led} {ps : List (Option (Nat × Nat))} {v : Value} {p} {f : Obj → Led} (hz : Zip l o D f) (hi : NL R o ps) (hv : PV R v p) (hf : ps.length ≤ sizeLine) (h : ∀ o', NL R o' (ps ++ [p]) → Q .none vs (f o')) : HT F vs D (call (.builtin "list.append") [.ref l, v]) Q := by
  obtain ⟨its, m, rfl, e, ha⟩ := hi
  refine append_ (hz.up _) (by omega) (h _ ⟨_, _, rfl, by simp [e], fun i q hq => ?_⟩)
  rw [List.getElem?_append] at hq ⊢
  rw [e]
  split at hq
  · rename_i hi
    rw [if_pos hi]
    exact ha i q hq
  · rename_i hi
    rw [if_neg hi]
    cases hj : i - ps.length with
    | zero => rw [hj] at hq; simp at hq; subst hq; exact ⟨v, rfl, hv⟩
    | succ j => rw [hj] at hq; simp at hq
theorem appendIL_m {l : Addr} {o : Obj} {ws : List Nat} {pl : Sem Bool} (hm : (l, o) ∈ D) (hi : IL o ws) (h : QM (.builtin "list.append", [.ref l]) vs D) : HT F vs D (getMethod (.ref l) "append" pl) QM := by
  obtain ⟨its, m, rfl, ha⟩ := hi
  exact appendM_ hm h
theorem appendNL_m {l : Addr} {o : Obj} {R : Led} {ws} {pl : Sem Bool} (hm : (l, o) ∈ D) (hi : NL R o ws) (h : QM (.builtin "list.append", [.ref l]) vs D) : HT F vs D (getMethod (.ref l) "append" pl) QM := by
  obtain ⟨its, m, rfl, ha⟩ := hi
  exact appendM_ hm h
theorem getLastD_map (ws : List Nat) : (ws.map Int.ofNat).getLastD 0 = ((ws.getLastD 0 : Nat) : Int) := by
  rw [List.getLastD_eq_getLast?, List.getLastD_eq_getLast?, List.getLast?_map]
  cases ws.getLast? <;> rfl
theorem pop_il {l : Addr} {o : Obj} {ws : List Nat} {f : Obj → Led} (hz : Zip l o D f) (hi : IL o ws) (hne : 0 < ws.length) (hf : ws.length ≤ sizeLine) (h : ∀ t o', IL o' ws.dropLast → Q (VN (ws.getLastD 0) t) vs (f o')) : HT F vs D (call (.builtin "list.pop") [.ref l]) Q := by
  obtain ⟨its, m, rfl, ha⟩ := hi
  have e := ha.len
  refine pop_ (hz.up _) ha.ints (by omega) (by omega) fun t => ?_
  have q := h t _ ⟨_, m + 1, rfl, ha.dropLast⟩
  unfold VN at q
  rwa [← getLastD_map] at q
theorem truthy_il {l : Addr} {o : Obj} {ws : List Nat} (hm : (l, o) ∈ D) (hi : IL o ws) (hf : ws.length < 2 ^ 62) (h : QB (!ws.isEmpty) vs D) : HT F vs D (truthy (.ref l)) QB := by
  obtain ⟨its, m, rfl, ha⟩ := hi
  have e := ha.len
  refine truthy_list_ hm (by simp; omega) ?_
  have : its.toArray.isEmpty = ws.isEmpty := by cases ha <;> rfl
  rwa [this]
theorem setItem_dz (ok : F.Ok) {d o kvs} {k : Int} {t : Tok} {v : Value} {f : Obj → Led} (hz : Zip d o D f) (hd : DI F.w o kvs) (hl : kvs.length ≤ sizeLine) (h : ∀ o', DI F.w o' (stored kvs k v) → QU () vs (f o')) : HT F vs D (setItem (.ref d) (.int k t) v) QU :=
  setItem_d ok (fun o' => hz.up o') hd hl h
theorem setdef_z (ok : F.Ok) {d o kvs} {k : Int} {t : Tok} {dflt : Value} {f : Obj → Led} (hz : Zip d o D f) (hd : DI F.w o kvs) (hl : kvs.length ≤ sizeLine)
    (h1 : ∀ v, valueAt kvs k = some v → Q v vs D) (h2 : valueAt kvs k = none → ∀ o', DI F.w o' (stored kvs k dflt) → Q dflt vs (f o')) : HT F vs D (call (.builtin "dict.setdefault") [.ref d, .int k t, dflt]) Q :=
  setdef_ ok (fun o' => hz.up o') hd hl h1 h2
end
-- L11
/-- the graph's objects -/
structure Ag where
  (g dg nl il : Addr)
  T : Nat → Tok
  n : Nat
  (vo vt : Value)
  (oN oI : Obj)
noncomputable def Ag.inst (A : Ag) : Addr × Obj := (A.g, instObj 116 A.dg)
noncomputable def Ag.dict (w : World) (A : Ag) : Addr × Obj := (A.dg, dictOf (aigE w.params A.T (.ref A.nl) (.ref A.il) A.vo A.vt) A.n)
/-- the graph stands in the ledger -/
structure AgIn (w : World) (A : Ag) (D : Led) (nodes : List (Option (Nat × Nat))) (inputs : List Nat) : Prop where
  g : (A.g, instObj 116 A.dg) ∈ D
  d : (A.dg, dictOf (aigE w.params A.T (.ref A.nl) (.ref A.il) A.vo A.vt) A.n) ∈ D
  n : (A.nl, A.oN) ∈ D
  i : (A.il, A.oI) ∈ D
  N : NL D A.oN nodes
  I : IL A.oI inputs
  sz : nodes.length ≤ 1000
  si : inputs.length ≤ 1000
  wf : ∀ (k l r : Nat), nodes[k]? = some (some (l, r)) → l >>> 1 < k ∧ r >>> 1 < k
  wi : ∀ (k i : Nat), inputs[k]? = some i → i < nodes.length
theorem AgIn.mono {w A D D' nodes inputs} (h : AgIn w A D nodes inputs) (hs : ∀ p ∈ D, p ∈ D') : AgIn w A D' nodes inputs :=
  ⟨hs _ h.g, hs _ h.d, hs _ h.n, hs _ h.i, h.N.mono hs, h.I, h.sz, h.si, h.wf, h.wi⟩
theorem AgIn.push {w A D nodes inputs p} (h : AgIn w A D nodes inputs) : AgIn w A (p :: D) nodes inputs := h.mono fun _ hp => .tail _ hp
theorem AgIn.app {w A D nodes inputs E} (h : AgIn w A D nodes inputs) : AgIn w A (D ++ E) nodes inputs := h.mono fun _ hp => List.mem_append.mpr (.inl hp)
/-- the class lists, each with its key -/
inductive Js : List (Nat × Addr × Obj) → List (Nat × List Nat) → Prop
  | nil : Js [] []
  | cons {k a o ws js gs} (hi : IL o ws) (h : Js js gs) : Js ((k, a, o) :: js) ((k, ws) :: gs)
noncomputable abbrev jk (js : List (Nat × Addr × Obj)) : List (Int × Value) := js.map fun j => ((j.1 : Int), Value.ref j.2.1)
/-- the classes of kept nodes: the dict's object and its lists -/
noncomputable def Cls (w : World) (oC : Obj) (C : Led) (gs : List (Nat × List Nat)) : Prop :=
  ∃ js : List (Nat × Addr × Obj), DI w oC (jk js) ∧ C = js.map (fun j => j.2) ∧ Js js gs
/-- the class of a key -/
noncomputable def clsOf : List (Nat × List Nat) → Nat → Option (List Nat)
  | [], _ => none
  | (j, l) :: gs, k => if j = k then some l else clsOf gs k
/-- the signatures' objects beside the graph and the object itself -/
structure Sg where
  (dx rl kl vl cl : Addr)
  T : Nat → Tok
  tc : Tok
  n : Nat
  c : Nat
  (oR oK oV oC : Obj)
  C : Led
@[reducible] noncomputable def Sg.dict (w : World) (A : Ag) (S : Sg) : Obj := dictOf (sigE w.params S.T (.ref A.g) (VN S.c S.tc) (.ref S.rl) (.ref S.kl) (.ref S.vl) (.ref S.cl)) S.n
@[reducible] noncomputable def Sg.led (w : World) (A : Ag) (x : Addr) (S : Sg) (R : Led) : Led :=
  (x, instObj 439 S.dx) :: (S.dx, S.dict w A) :: (A.g, instObj 116 A.dg) :: (A.dg, dictOf (aigE w.params A.T (.ref A.nl) (.ref A.il) A.vo A.vt) A.n) :: (A.nl, A.oN) :: (A.il, A.oI) :: (S.rl, S.oR) :: (S.kl, S.oK) :: (S.vl, S.oV) :: (S.cl, S.oC) :: (S.C ++ R)
structure Sd where
  (rows kept vals : List Nat)
  c : Nat
  gs : List (Nat × List Nat)
structure Sg.Is (w : World) (S : Sg) (P : Sd) : Prop where
  R : IL S.oR P.rows
  K : IL S.oK P.kept
  V : IL S.oV P.vals
  C : Cls w S.oC S.C P.gs
  c : S.c = P.c
  hc : P.c ≤ 1000
  lr : P.rows.length ≤ 1000
  lk : P.kept.length ≤ 1000
  lv : P.vals.length ≤ 1000
  lg : P.gs.length ≤ 1000
  lc : ∀ (k : Nat) (ws : List Nat), clsOf P.gs k = some ws → ws.length ≤ P.kept.length
structure AgOk (A : Ag) (R : Led) (nodes : List (Option (Nat × Nat))) (inputs : List Nat) : Prop where
  N : NL R A.oN nodes
  I : IL A.oI inputs
  sz : nodes.length ≤ 1000
  si : inputs.length ≤ 1000
  wf : ∀ (k l r : Nat), nodes[k]? = some (some (l, r)) → l >>> 1 < k ∧ r >>> 1 < k
  wi : ∀ (k i : Nat), inputs[k]? = some i → i < nodes.length
theorem AgOk.in {w A x S R nodes inputs} (h : AgOk A R nodes inputs) : AgIn w A (Sg.led w A x S R) nodes inputs where
  g := by simp [Sg.led]
  d := by simp [Sg.led]
  n := by simp [Sg.led]
  i := by simp [Sg.led]
  N := h.N.mono fun p hp => by simp [Sg.led, hp]
  I := h.I
  sz := h.sz
  si := h.si
  wf := h.wf
  wi := h.wi
theorem AgOk.mono {A R R' nodes inputs} (h : AgOk A R nodes inputs) (hs : ∀ p ∈ R, p ∈ R') : AgOk A R' nodes inputs := ⟨h.N.mono hs, h.I, h.sz, h.si, h.wf, h.wi⟩
/-- one more node of key k -/
noncomputable def addg : List (Nat × List Nat) → Nat → Nat → List (Nat × List Nat)
  | [], k, x => [(k, [x])]
  | (j, l) :: gs, k, x => if j = k then (j, l ++ [x]) :: gs else (j, l) :: addg gs k x
theorem addg_len (gs : List (Nat × List Nat)) (k x : Nat) : (addg gs k x).length ≤ gs.length + 1 := by
  induction gs with
  | nil => simp [addg]
  | cons g gs ih => obtain ⟨j, l⟩ := g; simp only [addg]; split <;> simp <;> omega
theorem clsOf_addg (gs : List (Nat × List Nat)) (k x j : Nat) : clsOf (addg gs k x) j = if j = k then some ((clsOf gs k).getD [] ++ [x]) else clsOf gs j := by
  induction gs with
  | nil =>
    by_cases e : j = k
    · subst e; simp [addg, clsOf]
    · simp [addg, clsOf, e, Ne.symm e]
  | cons g gs ih =>
    obtain ⟨i, l⟩ := g
    by_cases e : i = k
    · subst e
      by_cases e2 : j = i
      · subst e2; simp [addg, clsOf]
      · simp [addg, clsOf, e2, Ne.symm e2]
    · by_cases e2 : i = j
      · subst e2; simp [addg, clsOf, e]
      · simp [addg, clsOf, e, e2, ih]
theorem Js.len {js gs} (h : Js js gs) : js.length = gs.length := by
  induction h with
  | nil => rfl
  | cons _ _ ih => simp [ih]
theorem Js.hit {js gs} (h : Js js gs) {k x : Nat} {v : Value} {R : Led} (hv : valueAt (jk js) (k : Int) = some v) :
    ∃ a o ws f, v = .ref a ∧ IL o ws ∧ clsOf gs k = some ws ∧ Zip a o (js.map (fun j => j.2) ++ R) f ∧ ∀ o', IL o' (ws ++ [x]) → ∃ js', f o' = js'.map (fun j => j.2) ++ R ∧ Js js' (addg gs k x) ∧ jk js' = jk js := by
  induction h with
  | nil => simp [valueAt, jk] at hv
  | @cons j a o ws js gs hi h ih =>
    by_cases e : j = k
    · subst e
      simp [valueAt, jk] at hv
      exact ⟨a, o, ws, _, hv.symm, hi, by simp [clsOf], .head, fun o' ho => ⟨(j, a, o') :: js, rfl, by simp only [addg, if_true]; exact .cons ho h, rfl⟩⟩
    · have e' : ¬ (j : Int) = (k : Int) := by omega
      have hv' : valueAt (jk js) (k : Int) = some v := by
        simp only [valueAt, jk, List.map_cons, List.find?_cons, e', decide_false] at hv ⊢
        exact hv
      obtain ⟨a', o', ws', f, e1, e2, e4, e3, hh⟩ := ih hv'
      refine ⟨a', o', ws', _, e1, e2, by simp only [clsOf, if_neg e]; exact e4, .tail e3, fun o2 ho => ?_⟩
      obtain ⟨js', q1, q2, q3⟩ := hh o2 ho
      refine ⟨(j, a, o) :: js', by simp [q1], by simp only [addg, if_neg e]; exact .cons hi q2, ?_⟩
      show _ :: jk js' = _ :: jk js
      rw [q3]
theorem Js.miss {js gs} (h : Js js gs) {k x : Nat} (hv : valueAt (jk js) (k : Int) = none) : clsOf gs k = none ∧ addg gs k x = gs ++ [(k, [x])] ∧ ∀ v, stored (jk js) (k : Int) v = jk js ++ [((k : Int), v)] := by
  have hn : clsOf gs k = none ∧ addg gs k x = gs ++ [(k, [x])] ∧ ∀ kv ∈ jk js, kv.1 ≠ (k : Int) := by
    induction h with
    | nil => simp [addg, jk, clsOf]
    | @cons j a o ws js gs hi h ih =>
      by_cases e : j = k
      · subst e
        simp [valueAt, jk] at hv
      · have e' : ¬ (j : Int) = (k : Int) := by omega
        have hv' : valueAt (jk js) (k : Int) = none := by
          simp only [valueAt, jk, List.map_cons, List.find?_cons, e', decide_false] at hv ⊢
          exact hv
        obtain ⟨q0, q1, q2⟩ := ih hv'
        refine ⟨by simp only [clsOf, if_neg e]; exact q0, by simp [addg, if_neg e, q1], fun kv hk => ?_⟩
        rcases List.mem_cons.mp hk with rfl | hk
        · exact e'
        · exact q2 _ hk
  refine ⟨hn.1, hn.2.1, fun v => ?_⟩
  have q : (jk js).any (fun kv => kv.1 = (k : Int)) = false := by
    rw [List.any_eq_false]
    intro kv hk
    simpa using hn.2.2 kv hk
  rw [stored, q]
  rfl
theorem Js.snoc {js gs k a o ws} (h : Js js gs) (hi : IL o ws) : Js (js ++ [(k, a, o)]) (gs ++ [(k, ws)]) := by
  induction h with
  | nil => exact .cons hi .nil
  | cons hi' _ ih => exact .cons hi' ih
/-- a smaller ledger -/
noncomputable def Le (D D' : Led) : Prop := (∀ p ∈ D, p ∈ D') ∧ ((D'.map (·.1)).Nodup → (D.map (·.1)).Nodup)
theorem Le.refl (D : Led) : Le D D := ⟨fun _ h => h, fun h => h⟩
theorem Le.of_perm {D D' : Led} (h : D.Perm D') : Le D D' := ⟨fun _ hp => h.subset hp, fun hn => (h.map _).nodup_iff.mpr hn⟩
theorem Le.of_sub {D D' : Led} (h : D.Sublist D') : Le D D' := ⟨fun _ hp => h.subset hp, fun hn => (h.map _).nodup hn⟩
theorem Le.trans {D D' D'' : Led} (h : Le D D') (h' : Le D' D'') : Le D D'' := ⟨fun p hp => h'.1 p (h.1 p hp), fun hn => h.2 (h'.2 hn)⟩
section
variable {α : Type} {F : Fx} {vs : List (Option Value)} {D D' : Led} {t : Sem α} {P : α → List (Option Value) → Led → Prop}
theorem HT.post (h : HT F vs D t fun a vs' D1 => ∃ D2, Le D2 D1 ∧ P a vs' D2) : HT F vs D t P := fun s hs =>
  h.use hs fun _ _ _ _ h1 ⟨D2, hl, hp⟩ => ⟨_, D2, ⟨h1.fr, fun p hp => h1.nw p (hl.1 p hp), hl.2 h1.nd, h1.ln, h1.gens, h1.os⟩, hp⟩
theorem HT.le (h : HT F vs D' t P) (hl : Le D' D) : HT F vs D t P := h.sub hl.1 hl.2
variable {Q : Value → List (Option Value) → Led → Prop}
theorem cls_setdef (ok : F.Ok) {pre R : Led} {cl a : Addr} {oC oE : Obj} {C : Led} {gs : List (Nat × List Nat)} {k x : Nat} {u : Tok} (hc : Cls F.w oC C gs) (hz : gs.length ≤ 1000) (hE : IL oE [])
    (h : ∀ b o ws D1 f, Zip b o D1 f → IL o ws → (clsOf gs k = some ws ∨ ws = []) → (∀ o', IL o' (ws ++ [x]) → ∃ oC' C', f o' = pre ++ (cl, oC') :: (C' ++ R) ∧ Cls F.w oC' C' (addg gs k x)) → Q (.ref b) vs D1) :
    HT F vs ((a, oE) :: (pre ++ (cl, oC) :: (C ++ R))) (call (.builtin "dict.setdefault") [.ref cl, VN k u, .ref a]) Q := by
  obtain ⟨js, hd, rfl, hj⟩ := hc
  have hl := hj.len
  refine HT.post (setdef_z ok (.tail (Zip.skip .head pre)) hd (by simp [sizeLine]; omega) (fun v hv => ?_) fun hv o' ho => ?_)
  · obtain ⟨b, o, ws, f, rfl, h1, h0, h2, h3⟩ := hj.hit (x := x) (R := R) hv
    refine ⟨_, Le.of_sub (List.sublist_cons_self _ _), h b o ws _ _ (Zip.skip (.tail h2) pre) h1 (.inl h0) fun o' ho => ?_⟩
    obtain ⟨js', e, hj', ek⟩ := h3 o' ho
    exact ⟨oC, _, by rw [e], js', by rw [ek]; exact hd, rfl, hj'⟩
  · obtain ⟨e0, e1, e2⟩ := hj.miss (x := x) hv
    rw [e2] at ho
    refine ⟨pre ++ (cl, o') :: (js.map (fun j => j.2) ++ (a, oE) :: R), Le.of_perm ?_, h a oE [] _ _ (Zip.skip (.tail (Zip.skip .head _)) pre) hE (.inr rfl) fun o2 ho2 => ?_⟩
    · have := List.perm_middle (a := (a, oE)) (l₁ := pre ++ (cl, o') :: js.map (fun j => j.2)) (l₂ := R)
      simpa using this
    · refine ⟨o', js.map (fun j => j.2) ++ [(a, o2)], by simp, js ++ [(k, a, o2)], ?_, by simp, ?_⟩
      · simpa [jk] using ho
      · rw [e1]; exact hj.snoc ho2
end
-- L12
section
variable {F : Fx} {vs : List (Option Value)} {D D' : Led} {s : Shared}
variable {Q : Value → List (Option Value) → Led → Prop} {QU : Unit → List (Option Value) → Led → Prop} {QB : Bool → List (Option Value) → Led → Prop} {QF : Flow → List (Option Value) → Led → Prop} {QL : List Value → List (Option Value) → Led → Prop}
theorem AssignS_ {o i pos' value pos} (h : HT F vs D (eval value F.env) fun v vs1 D1 => HT F vs1 D1 (eval o F.env) fun ov vs2 D2 => HT F vs2 D2 (eval i F.env) fun iv vs3 D3 => HT F vs3 D3 (setItem ov iv v) fun _ => QF .next)
    (hs : swapsWith value (some (.Subscript o i pos')) pos.line F.env = pure false := by rfl) : HT F vs D (exec (.Assign [.Subscript o i pos'] value pos) F.env) QF :=
  fun s hs' => wpAny_Assign_Subscript (h.use hs' fun _ _ _ _ h1 h2 => h2.use h1 fun _ _ _ _ h3 h4 => h4.use h3 fun _ _ _ _ h5 h6 => h6.use h5 fun _ _ _ _ h7 h8 => ⟨_, _, h7, h8⟩) hs
theorem AssignA_ {o attr pos' value pos} (h : HT F vs D (eval value F.env) fun v vs1 D1 => HT F vs1 D1 (eval o F.env) fun ov vs2 D2 => HT F vs2 D2 (setAttr ov attr v) fun _ => QF .next)
    (hs : swapsWith value (some (.Attribute o attr pos')) pos.line F.env = pure false := by rfl) : HT F vs D (exec (.Assign [.Attribute o attr pos'] value pos) F.env) QF :=
  fun s hs' => plainObj_wpAny_Assign_Attribute (h.use hs' fun _ _ _ _ h1 h2 => h2.use h1 fun _ _ _ _ h3 h4 => h4.use h3 fun _ _ _ _ h5 h6 => ⟨_, _, h5, h6⟩) hs
theorem AssignT_ {elts k tpos value pos} (h : HT F vs D (eval value F.env) fun v vs1 D1 => HT F vs1 D1 (assign (.Tuple elts k tpos) F.env v) fun _ => QF .next)
    (hs : swapsWithSole [.Tuple elts k tpos] value pos.line F.env = pure false := by rfl)
    (hw : swappedStores [.Tuple elts k tpos] value F.env = pure none := by rfl) : HT F vs D (exec (.Assign [.Tuple elts k tpos] value pos) F.env) QF :=
  fun s hs' => Assign_Tuple (h.use hs' fun _ _ _ _ h1 h2 => h2.use h1 fun _ _ _ _ h3 h4 => ⟨_, _, h3, h4⟩) hs hw
theorem unpack2_ (ok : F.Ok) {x y : Str} {px py k pos} {b : Addr} {v1 v2 : Value} {vs1 vs2 : List (Option Value)} (hm : (b, tupOf [v1, v2]) ∈ D) (p1 : Put F.xs vs x v1 vs1) (p2 : Put F.xs vs1 y v2 vs2) (h : QU () vs2 D) :
    HT F vs D (assign (.Tuple [.Name x px, .Name y py] k pos) F.env (.ref b)) QU := fun s hs =>
  unpackN_ hs.fr hs.nw (items := #[v1, v2]) ⟨_, hs.get hm, rfl, _, rfl⟩ ok.hd rfl rfl fun h' F' N' =>
    assignInOrder_cons (PyProof.Rows.assign_Name (HT.use (store_ ok p1 (QU := fun _ vs' D' => vs' = vs1 ∧ D' = D) ⟨rfl, rfl⟩) ⟨F', N', hs.nd, hs.ln, hs.gens, hs.os⟩ fun _ s2 _ _ h1 ⟨e1, e2⟩ => by
      subst e1 e2
      exact assignInOrder_cons (PyProof.Rows.assign_Name (HT.use (store_ ok p2 (QU := fun _ vs' D' => vs' = vs2 ∧ D' = _) ⟨rfl, rfl⟩) h1 fun _ s3 _ _ h2 ⟨e3, e4⟩ => by
        subst e3 e4
        exact assignInOrder_nil ⟨_, _, h2, h⟩))))
theorem max2_ (ok : F.Ok) {a b : Nat} {t u : Tok} (h : ∀ t', Q (VN (max a b) t') vs D) : HT F vs D (call (.builtin "max") [VN a t, VN b u]) Q := fun s hs =>
  max_two_N ok.hd hs.fr hs.nw fun h' tk F' N' => by
    refine ⟨vs, D, ⟨F', N', hs.nd, hs.ln, hs.gens, hs.os⟩, ?_⟩
    have e : (if (b : Int) > (a : Int) then (b : Int) else (a : Int)) = ((max a b : Nat) : Int) := by split <;> omega
    rw [e]; exact h _
theorem min2_ (ok : F.Ok) {a b : Nat} {t u : Tok} (h : ∀ t', Q (VN (min a b) t') vs D) : HT F vs D (call (.builtin "min") [VN a t, VN b u]) Q := fun s hs =>
  min_two_N ok.hd hs.fr hs.nw fun h' tk F' N' => by
    refine ⟨vs, D, ⟨F', N', hs.nd, hs.ln, hs.gens, hs.os⟩, ?_⟩
    have e : (if (b : Int) < (a : Int) then (b : Int) else (a : Int)) = ((min a b : Nat) : Int) := by split <;> omega
    rw [e]; exact h _
theorem NA.flat {n t} : ∀ k : Nat, NA (List.replicate k [VN n t]).flatten (List.replicate k n)
  | 0 => .nil
  | k + 1 => .cons (NA.flat k)
/-- a display of one int times a number -/
theorem mulList_ {l : Addr} {n k : Nat} {t u : Tok} {m : Nat} (hm : (l, W.listOf [VN n t].toArray m) ∈ D) (hk : k ≤ 1000) (h : ∀ a o, IL o (List.replicate k n) → (∀ p ∈ D, p.1 ≠ a) → Q (.ref a) vs ((a, o) :: D)) : HT F vs D (binaryOp .Mult (.ref l) (VN k u)) Q := fun s hs =>
  mul_list hs.fr hs.nw (hs.get hm) (by omega) (by omega) (by simp; omega) fun h' F' N' => by
    rw [listMul_foldl_if] at N'
    have e : (List.replicate ((k : Int)).toNat [VN n t]).flatten.toArray = (List.replicate k [VN n t]).flatten.toArray := by simp
    exact ⟨_, _, hs.cons F' N' (fun p hp => hs.ne hp), h _ _ ⟨_, 0, by rw [← e], NA.flat k⟩ fun p hp => hs.ne hp⟩
end
-- L13
section
variable {F : Fx} {vs : List (Option Value)} {D D' : Led} {s : Shared}
variable {Q : Value → List (Option Value) → Led → Prop} {QF : Flow → List (Option Value) → Led → Prop}
/-- for over range(a, b) of naturals -/
theorem forRa_ (ok : F.Ok) {x : Str} {px : Pos} {iter : PySem.Expr} {body : List Stmt} {pos : Pos} {a b : Nat} {j : Nat} (hj : F.xs[j]? = some x) (hab : a ≤ b) (hb : b < 2 ^ 61) (I : Nat → List (Option Value) → Led → Prop)
    (hiter : HT F vs D (eval iter F.env) fun v vs1 D1 => ∃ r t u w D2, v = .ref r ∧ D1 = (r, rngOf a b 1 t u w) :: D2 ∧ I 0 vs1 D2)
    (turn : ∀ (i : Nat) t vs D E, a + i < b → I i vs D → HT F (vs.set j (some (VN (a + i) t))) (D ++ E) (execs body F.env) (Turn (I (i + 1)) QF E))
    (done : ∀ vs D, I (b - a) vs D → QF .next vs D) (hs : ∀ x, foldedSetIterable iter F.env x = pure x := by intro _; rfl) : HT F vs D (exec (.For (.Name x px) iter body [] pos) F.env) QF := by
  refine forRange_ ok (a := a) (b := b) hj (by omega) (by omega) (by omega) I hiter (fun i t vs D E hi hI => ?_) (fun vs D hI => ?_) hs
  · have := turn i t vs D E (by omega) hI
    unfold VN at this
    rwa [Int.natCast_add] at this
  · have e : ((b : Int) - (a : Int)).toNat = b - a := by omega
    rw [e] at hI
    exact done vs D hI
/-- for over range(n) -/
theorem forR_ (ok : F.Ok) {x : Str} {px : Pos} {iter : PySem.Expr} {body : List Stmt} {pos : Pos} {n : Nat} {j : Nat} (hj : F.xs[j]? = some x) (hb : n < 2 ^ 61) (I : Nat → List (Option Value) → Led → Prop)
    (hiter : HT F vs D (eval iter F.env) fun v vs1 D1 => ∃ r t u w D2, v = .ref r ∧ D1 = (r, rngOf 0 n 1 t u w) :: D2 ∧ I 0 vs1 D2)
    (turn : ∀ (i : Nat) t vs D E, i < n → I i vs D → HT F (vs.set j (some (VN i t))) (D ++ E) (execs body F.env) (Turn (I (i + 1)) QF E))
    (done : ∀ vs D, I n vs D → QF .next vs D) (hs : ∀ x, foldedSetIterable iter F.env x = pure x := by intro _; rfl) : HT F vs D (exec (.For (.Name x px) iter body [] pos) F.env) QF := by
  refine forRa_ ok (a := 0) hj (by omega) hb I hiter (fun i t vs D E hi hI => ?_) done hs
  have := turn i t vs D E (by omega) hI
  rwa [Nat.zero_add]
theorem callPB_ (ok : F.Ok) {d : Dfn} {f : Addr} (dk : d.Ok f) {args : List Value} {ps ls : List Str} (hb : ∀ S, peek F.K S (bindArgs d.fn ⟨args, []⟩) = some (ps.zip args)) (hxs : d.xs = ps ++ ls) (hln : args.length = ps.length) (hlv : F.lv < 40)
    (h : CallOk F D d f F.A (args.map some ++ List.replicate ls.length none) fun v D' => Q v vs D') : HT F vs D (call (.ref f) args) Q := fun s hs => by
  refine wpAny_call (codeD_ ok dk (kp_binds (ok.K.keeps hs.fr.keep) hb) (fun y hy => dk.loc _ ?_) (by rw [hxs]; exact lay_binds hln (hxs ▸ dk.nd)) (by rw [hxs]; simp [hln]) hlv ok.fr ok.hd (by have := ok.dep; omega) (by have := ok.uni; omega) hs fun g L ok' => (h g L ok').mono fun fl _ D' q s' hs' => ⟨_, _, hs', q⟩)
  rw [hxs]
  exact List.mem_append.mpr (.inl (List.of_mem_zip hy).1)
theorem bi_len (ok : F.Ok) {pos : Pos} (h : Q (.builtin "len") vs D) (hx : F.env.kindOf (Str.ofString "len") = some .globalImplicit := by rfl) (hcl : F.cl = [] := by rfl) : HT F vs D (eval (.Name (Str.ofString "len") pos) F.env) Q := builtin_ ok (nb_len _) (by kernel_rfl) (by decide) h hx (hcl := hcl)
theorem bi_range (ok : F.Ok) {pos : Pos} (h : Q (.type "range") vs D) (hx : F.env.kindOf (Str.ofString "range") = some .globalImplicit := by rfl) (hcl : F.cl = [] := by rfl) : HT F vs D (eval (.Name (Str.ofString "range") pos) F.env) Q := builtin_ ok (nb_range _) (by kernel_rfl) (by decide) h hx (hcl := hcl)
theorem bi_max (ok : F.Ok) {pos : Pos} (h : Q (.builtin "max") vs D) (hx : F.env.kindOf (Str.ofString "max") = some .globalImplicit := by rfl) (hcl : F.cl = [] := by rfl) : HT F vs D (eval (.Name (Str.ofString "max") pos) F.env) Q := builtin_ ok (nb_max _) (by kernel_rfl) (by decide) h hx (hcl := hcl)
theorem bi_min (ok : F.Ok) {pos : Pos} (h : Q (.builtin "min") vs D) (hx : F.env.kindOf (Str.ofString "min") = some .globalImplicit := by rfl) (hcl : F.cl = [] := by rfl) : HT F vs D (eval (.Name (Str.ofString "min") pos) F.env) Q := builtin_ ok (nb_min _) (by kernel_rfl) (by decide) h hx (hcl := hcl)
theorem bi_sorted (ok : F.Ok) {pos : Pos} (h : Q (.builtin "sorted") vs D) (hx : F.env.kindOf (Str.ofString "sorted") = some .globalImplicit := by rfl) (hcl : F.cl = [] := by rfl) : HT F vs D (eval (.Name (Str.ofString "sorted") pos) F.env) Q := builtin_ ok (nb_sorted _) (by kernel_rfl) (by decide) h hx (hcl := hcl)
theorem bi_list (ok : F.Ok) {pos : Pos} (h : Q (.type "list") vs D) (hx : F.env.kindOf (Str.ofString "list") = some .globalImplicit := by rfl) (hcl : F.cl = [] := by rfl) : HT F vs D (eval (.Name (Str.ofString "list") pos) F.env) Q := builtin_ ok (nb_list _) (by kernel_rfl) (by decide) h hx (hcl := hcl)
theorem bi_int (ok : F.Ok) {pos : Pos} (h : Q (.type "int") vs D) (hx : F.env.kindOf (Str.ofString "int") = some .globalImplicit := by rfl) (hcl : F.cl = [] := by rfl) : HT F vs D (eval (.Name (Str.ofString "int") pos) F.env) Q := builtin_ ok (nb_int _) (by kernel_rfl) (by decide) h hx (hcl := hcl)
end
-- L14
theorem Le.move {l₁ l₂ l₃ : Led} {a : Addr × Obj} (h : l₃.Sublist l₂) : Le (l₁ ++ a :: l₃) (a :: (l₁ ++ l₂)) :=
  Le.trans (Le.of_sub (List.Sublist.append (List.Sublist.refl _) (List.Sublist.cons_cons _ h))) (Le.of_perm List.perm_middle)
section
variable {F : Fx} {vs : List (Option Value)} {D D' : Led} {s : Shared}
variable {Q : Value → List (Option Value) → Led → Prop} {QF : Flow → List (Option Value) → Led → Prop}
/-- for over an int list that the loop leaves alone -/
theorem forIL_ (ok : F.Ok) {x : Str} {px : Pos} {iter : PySem.Expr} {body : List Stmt} {pos : Pos} {l : Addr} {o : Obj} {ws : List Nat} {j : Nat} (hj : F.xs[j]? = some x) (hi : IL o ws) (I : Nat → List (Option Value) → Led → Prop)
    (hiter : HT F vs D (eval iter F.env) fun v vs1 D1 => v = .ref l ∧ I 0 vs1 D1) (mem : ∀ i vs D, I i vs D → (l, o) ∈ D)
    (turn : ∀ i n t vs D E, ws[i]? = some n → I i vs D → HT F (vs.set j (some (VN n t))) (D ++ E) (execs body F.env) (Turn (I (i + 1)) QF E))
    (done : ∀ vs D, I ws.length vs D → QF .next vs D) (hs : ∀ x, foldedSetIterable iter F.env x = pure x := by intro _; rfl) : HT F vs D (exec (.For (.Name x px) iter body [] pos) F.env) QF := by
  obtain ⟨its, m, rfl, ha⟩ := hi
  refine forList_ ok (l := l) (its := its) (n := m) I hiter (fun i vs D hI => ⟨m, mem i vs D hI⟩) (fun _ _ => own_name) (fun i v vs D E hv hI => ?_) (fun vs D hI => done vs D (by rw [← ha.len]; exact hI)) hs
  obtain ⟨n, t, hn, rfl⟩ := ha.of hv
  exact assignName_ ok hj (turn i n t vs D E hn hI)
end
-- L15
theorem NA.nums {vs ns} (h : NA vs ns) : lks_nums vs = ns.map Int.ofNat ∧ kf_ints vs = true := by
  induction h with
  | nil => exact ⟨rfl, rfl⟩
  | cons _ ih => exact ⟨congrArg (List.cons _) ih.1, ih.2⟩
theorem NA.lks (t : Nat → Tok) : ∀ (ns : List Nat) (i : Nat), NA (lks_vals (ns.map Int.ofNat) i t) ns
  | [], _ => .nil
  | n :: ns, i => .cons (NA.lks t ns (i + 1))
theorem NA.ofGet : ∀ {vs : List Value} {ns : List Nat}, vs.length = ns.length → (∀ (i : Nat) (v : Value) (n : Nat), vs[i]? = some v → ns[i]? = some n → ∃ t, v = VN n t) → NA vs ns
  | [], [], _, _ => .nil
  | v :: vs, n :: ns, hl, h => by
    obtain ⟨t, rfl⟩ := h 0 v n rfl rfl
    exact .cons (NA.ofGet (by simpa using hl) fun i v n h1 h2 => h (i + 1) v n (by simpa using h1) (by simpa using h2))
theorem lks_asc_of : ∀ {l : List Int}, l.Pairwise (· ≤ ·) → lks_asc l = true
  | [], _ => rfl
  | a :: r, h => by
    have h' := List.pairwise_cons.mp h
    simp only [lks_asc, Bool.and_eq_true, List.all_eq_true, decide_eq_true_eq]
    exact ⟨h'.1, lks_asc_of h'.2⟩
section
variable {F : Fx} {vs : List (Option Value)} {D D' : Led} {s : Shared}
variable {Q : Value → List (Option Value) → Led → Prop} {QF : Flow → List (Option Value) → Led → Prop}
/-- sorted(d) over a dict of natural keys -/
theorem sorted_d (ok : F.Ok) {d od} {seen : List Nat} {tv : Value} (hm : (d, od) ∈ D) (hd : DI F.w od (seen.map fun k : Nat => ((k : Int), tv))) (h64 : seen.length < 64) (hne : seen ≠ [])
    (h : ∀ a o, IL o (seen.mergeSort (fun a b => decide (a ≤ b))) → (∀ p ∈ D, p.1 ≠ a) → Q (.ref a) vs ((a, o) :: D)) : HT F vs D (call (.builtin "sorted") [.ref d]) Q := fun s hs => by
  obtain ⟨ep, hat⟩ := (DI.at hs hm hd).dictAt
  refine kdu_sorted (kdl_dict (knd := IK F.w) (ep := ep) (notSys ok hs hm)) ok.hd hs.fr hs.nw hat (by simp [sizeLine]; omega) fun B h' tk vs' F' N' l1 hl hv => ?_
  have hl : vs'.length = seen.length := by simpa using hl
  have ha : NA vs' seen := NA.ofGet hl fun i v n h1 h2 => by
    obtain ⟨k, x, hk, hi⟩ := hv i v h1
    rw [List.getElem?_map, h2] at hk
    cases hk
    exact Value.isInt_shape hi
  obtain ⟨e1, e2⟩ := ha.nums
  refine lks_sort (D := B) (its := vs'.toArray) (n := 0) (q := (seen.mergeSort (fun a b => decide (a ≤ b))).map Int.ofNat) (news' := fun t => (B, listOf (lks_vals ((seen.mergeSort (fun a b => decide (a ≤ b))).map Int.ofNat) 0 t).toArray 2) :: D) F' N' (fun t => .head fun p hp e => ?_) (by simpa using e2) ?_ ?_ (by simpa using by omega) fun t h2 F2 N2 => ?_
  · exact Nat.lt_irrefl _ (e ▸ l1 p hp)
  · rw [List.toList_toArray]
    simp only [lks_ok, e1, Bool.and_eq_true, List.isPerm_iff]
    refine ⟨(List.mergeSort_perm _ _).symm.map _, lks_asc_of ?_⟩
    have := List.pairwise_mergeSort (le := fun a b : Nat => decide (a ≤ b)) (fun a b c h1 h2 => by simp at *; omega) (fun a b => by simp; omega) seen
    exact List.pairwise_map.mpr (this.imp fun h => by simp at h; simpa using h)
  · have : vs' ≠ [] := fun e => hne (by rw [e] at hl; exact List.length_eq_zero_iff.mp hl.symm)
    simpa using this
  · exact ⟨_, _, ⟨F2, N2, List.nodup_cons.mpr ⟨fun hm => by obtain ⟨p, hp, e⟩ := List.mem_map.mp hm; exact Nat.lt_irrefl _ (e ▸ l1 p hp), hs.nd⟩, hs.ln, hs.gens, hs.os⟩, h B _ ⟨_, 2, rfl, NA.lks t _ 0⟩ fun p hp e => Nat.lt_irrefl _ (e ▸ l1 p hp)⟩
end
-- L16
noncomputable def tio (l : Addr) (i : Nat) (o : Obj) : Prop := o.cls = .type "tuple_iterator" ∧ o.data = .fields #[.ref l, .int i 0]
section
variable {F : Fx} {vs : List (Option Value)} {D D' : Led} {s : Shared}
variable {Q : Value → List (Option Value) → Led → Prop} {QF : Flow → List (Option Value) → Led → Prop}
/-- for over a tuple of naturals -/
theorem forTN_ (ok : F.Ok) {x : Str} {px : Pos} {iter : PySem.Expr} {body : List Stmt} {pos : Pos} {l : Addr} {its : List Value} {ws : List Nat} {j : Nat} (hj : F.xs[j]? = some x) (ha : NA its ws) (I : Nat → List (Option Value) → Led → Prop)
    (hiter : HT F vs D (eval iter F.env) fun v vs1 D1 => v = .ref l ∧ I 0 vs1 D1) (mem : ∀ i vs D, I i vs D → (l, tupOf its) ∈ D)
    (turn : ∀ i n t vs D E, ws[i]? = some n → I i vs D → HT F (vs.set j (some (VN n t))) (D ++ E) (execs body F.env) (Turn (I (i + 1)) QF E))
    (done : ∀ vs D, I ws.length vs D → QF .next vs D) (hs : ∀ x, foldedSetIterable iter F.env x = pure x := by intro _; rfl) : HT F vs D (exec (.For (.Name x px) iter body [] pos) F.env) QF := by
  intro s hs'
  refine wpAny_For (hiter.use hs' fun v s1 vs1 D1 h1 ⟨e, hI⟩ => ?_) hs
  subst e
  have tup : ∀ {vs D s}, St F vs D s → (l, tupOf its) ∈ D → s.heap.IsTuple l its.toArray := fun h hm => ⟨_, h.get hm, rfl, _, rfl⟩
  refine wpAny_pyIter_tuple (tup h1 (mem _ _ _ hI)) ?_
  refine for_core its.length (tio l) (fun i v => its[i]? = some v) I _ ?_ ?_ ?_ (fun i v vs D E _ hv hI => ?_) (fun vs D hI => done vs D (by rw [← ha.len]; exact hI)) (o := { cls := .type "tuple_iterator", data := .fields #[.ref l, .int 0 0] }) ⟨rfl, rfl⟩ hI
    (St.swap (E := [_]) (h1.push _ (k := s1.toks)))
  · intro i o vs D s hi ho hI hs
    obtain ⟨z1, z2, z3, z4⟩ := hs.lastNe
    refine wpAny_pyNext_tuple_item (i := i) (x := its[i]) ⟨o, z3, ho⟩ (tup hs.left (mem _ _ _ hI)) (by simp [hi]) fun h' hit hb => ?_
    obtain ⟨o', g1, g2⟩ := hit
    exact ⟨_, o', rfl, by simp [hi], g2, hs.upd Up.last hb g1 (k := s.toks)⟩
  · intro o vs D s ho hI hs
    obtain ⟨z1, z2, z3, z4⟩ := hs.lastNe
    refine wpAny_pyNext_tuple_end (i := its.length) ok.hd ⟨o, z3, ho⟩ (tup hs.left (mem _ _ _ hI)) (by simp) fun h' hx => ⟨rfl, hs.ext hx z1 z2 z4 (k := s.toks)⟩
  · intro i v o vs D s hv ho hs
    exact own_name
  · obtain ⟨n, t, hn, rfl⟩ := ha.of hv
    exact assignName_ ok hj (turn i n t vs D E hn hI)
theorem ite_t {P Q : Prop} (h : P) : if true = true then P else Q := h
theorem ite_f {P Q : Prop} (h : Q) : if false = true then P else Q := h
/-- the last of a list -/
theorem last_mem {st : List Nat} (h : 0 < st.length) : st.getLastD 0 ∈ st := by
  have hne : st ≠ [] := fun e => by simp [e] at h
  rw [List.getLastD_eq_getLast?, List.getLast?_eq_some_getLast hne]
  exact List.getLast_mem hne
/-- the number of bits -/
noncomputable def bl (n : Nat) : Nat := if n = 0 then 0 else n.log2 + 1
theorem bitN_ {a : Nat} {t : Tok} (h : ∀ t', Q (VN (bl a) t') vs D) : HT F vs D (call (.builtin "int.bit_length") [VN a t]) Q := bit_ fun t' => by
  have e : Builtin.Int.intBits (a : Int) = bl a := by
    unfold Builtin.Int.intBits bl
    by_cases h : a = 0
    · subst h; rfl
    · have : ((a : Int) == 0) = false := by simpa using h
      simp [this, h]
  rw [e]; exact h t'
end
-- L17
theorem valueAt_cons (a : Int) (b : Value) (l : List (Int × Value)) (j : Int) : valueAt ((a, b) :: l) j = if a = j then some b else valueAt l j := by
  by_cases e : a = j
  · simp [valueAt, e]
  · simp [valueAt, e]
theorem valueAt_app (l l' : List (Int × Value)) (j : Int) : valueAt (l ++ l') j = (valueAt l j).or (valueAt l' j) := by
  induction l with
  | nil => rfl
  | cons a l ih =>
    obtain ⟨a, b⟩ := a
    rw [List.cons_append, valueAt_cons, valueAt_cons, ih]
    split <;> simp
theorem valueAt_map (kvs : List (Int × Value)) (k j : Int) (v : Value) : valueAt (kvs.map (fun kv => if kv.1 = k then (kv.1, v) else kv)) j = if j = k then (if kvs.any (fun kv => kv.1 = k) then some v else none) else valueAt kvs j := by
  induction kvs with
  | nil => simp [valueAt]
  | cons a l ih =>
    obtain ⟨a, b⟩ := a
    rw [List.map_cons, List.any_cons]
    by_cases e : a = k
    · subst e
      simp only [if_true]
      rw [valueAt_cons, valueAt_cons, ih]
      by_cases e2 : j = a
      · subst e2; simp
      · simp [e2, Ne.symm e2]
    · simp only [if_neg e]
      rw [valueAt_cons, valueAt_cons, ih]
      by_cases e2 : j = k
      · subst e2; simp only [e, decide_false, Bool.false_or, if_true, if_false]
      · simp [e2]
theorem valueAt_none {kvs : List (Int × Value)} {k : Int} (h : ¬ kvs.any (fun kv => kv.1 = k) = true) : valueAt kvs k = none := by
  induction kvs with
  | nil => rfl
  | cons a l ih =>
    obtain ⟨a, b⟩ := a
    rw [List.any_cons] at h
    simp only [Bool.or_eq_true, decide_eq_true_eq, not_or] at h
    rw [valueAt_cons, if_neg h.1]
    exact ih h.2
theorem valueAt_stored (kvs : List (Int × Value)) (k j : Int) (v : Value) : valueAt (stored kvs k v) j = if j = k then some v else valueAt kvs j := by
  unfold stored
  by_cases h : kvs.any (fun kv => kv.1 = k) = true
  · rw [if_pos h, valueAt_map, if_pos h]
  · rw [if_neg h, valueAt_app, valueAt_cons]
    by_cases e : j = k
    · subst e; simp [valueAt_none h]
    · simp [e, Ne.symm e, valueAt]
section
variable {F : Fx} {vs : List (Option Value)} {D D' : Led} {s : Shared}
variable {Q : Value → List (Option Value) → Led → Prop} {QF : Flow → List (Option Value) → Led → Prop}
theorem newDict00_ {k1 p1 k2 p2 pos} (h : ∀ d o t, (∀ p ∈ D, p.1 ≠ d) → DI F.w o [((0 : Int), VN 0 t)] → Q (.ref d) vs ((d, o) :: D)) :
    HT F vs D (eval (.Dict [some (.Constant (.int 0) k1 p1)] [.Constant (.int 0) k2 p2] pos) F.env) Q := fun s hs => by
  have hp := hs.push { cls := .type "dict", data := .dict #[] } (k := s.toks)
  refine wpAny_Dict_pairs (knd := IK F.w) (pairs := [(eval (.Constant (.int 0) k1 p1) F.env, do let x ← eval (.Constant (.int 0) k2 p2) F.env; standAt pos; pure x)]) rfl (by simp) (by simp) ?_
  refine evalPairs_cons (wpAny_Constant_int (wpAny_bind (wpAny_Constant_int (wpAny_bind (wpAny_standAt (wpAny_pure (evalPairs_nil ?_)))))))
  refine ⟨[((0 : Int), VN 0 (s.toks + 1))], ⟨rfl, rfl, trivial⟩, ?_, fun h' hm hb => ?_⟩
  · exact Heap.DictOf.new s.heap
  · obtain ⟨o', g1, g2⟩ := Heap.dictOf_iff.mp hm
    exact ⟨_, _, hp.upd .head hb g1, h _ o' _ (fun p hp => hs.ne hp) g2⟩
end
-- L18
section
variable {F : Fx} {vs : List (Option Value)} {D D' : Led} {s : Shared}
variable {Q : Value → List (Option Value) → Led → Prop} {QF : Flow → List (Option Value) → Led → Prop}
/-- how a loop over an int list is to go on from the list's value -/
noncomputable def GoIL (F : Fx) (j : Nat) (body : List Stmt) (QF : Flow → List (Option Value) → Led → Prop) (v : Value) (vs : List (Option Value)) (D : Led) : Prop :=
  ∃ (l : Addr) (o : Obj) (ws : List Nat) (I : Nat → List (Option Value) → Led → Prop), v = .ref l ∧ IL o ws ∧ I 0 vs D ∧ (∀ i vs D, I i vs D → (l, o) ∈ D) ∧
    (∀ i n t vs D E, ws[i]? = some n → I i vs D → HT F (vs.set j (some (VN n t))) (D ++ E) (execs body F.env) (Turn (I (i + 1)) QF E)) ∧ (∀ vs D, I ws.length vs D → QF .next vs D)
theorem forE_ (ok : F.Ok) {x : Str} {px : Pos} {iter : PySem.Expr} {body : List Stmt} {pos : Pos} {j : Nat} (hj : F.xs[j]? = some x)
    (hiter : HT F vs D (eval iter F.env) (GoIL F j body QF)) (hs : ∀ x, foldedSetIterable iter F.env x = pure x := by intro _; rfl) : HT F vs D (exec (.For (.Name x px) iter body [] pos) F.env) QF := by
  intro s hs'
  refine wpAny_For (hiter.use hs' fun v s1 vs1 D1 h1 ⟨l, o, ws, I, e, hi, hI, mem, turn, done⟩ => ?_) hs
  subst e
  obtain ⟨its, n, rfl, ha⟩ := hi
  have hm := mem _ _ _ hI
  refine wpAny_pyIter_list (PySem.IsL.isList (n := n) (h1.get hm)) ?_
  refine for_core its.length (lio l) (fun i v => its[i]? = some v) I _ ?_ ?_ ?_ (fun i v vs D E _ hv hI => ?_) (fun vs D hI => done vs D (by rw [← ha.len]; exact hI)) (o := { cls := .type "list_iterator", data := .fields #[.ref l, .int 0 0] }) ⟨rfl, rfl⟩ hI
    (St.swap (E := [_]) (h1.push _ (k := s1.toks)))
  · intro i o vs D s hi ho hI hs
    have hm := mem _ _ _ hI
    obtain ⟨z1, z2, z3, z4⟩ := hs.lastNe
    refine wpAny_pyNext_list_item (i := i) (x := its[i]) ⟨o, z3, ho⟩ (PySem.IsL.isList (n := n) (hs.left.get hm)) (by simp [hi]) fun h' hit hb => ?_
    obtain ⟨o', g1, g2⟩ := hit
    exact ⟨_, o', rfl, by simp [hi], g2, hs.upd Up.last hb g1 (k := s.toks)⟩
  · intro o vs D s ho hI hs
    have hm := mem _ _ _ hI
    obtain ⟨z1, z2, z3, z4⟩ := hs.lastNe
    refine wpAny_pyNext_list_end (i := its.length) ok.hd ⟨o, z3, ho⟩ (PySem.IsL.isList (n := n) (hs.left.get hm)) (by simp) fun h' hx => ⟨rfl, hs.ext hx z1 z2 z4 (k := s.toks)⟩
  · intro i v o vs D s hv ho hs
    exact own_name
  · obtain ⟨k, t, hn, rfl⟩ := ha.of hv
    exact assignName_ ok hj (turn i k t vs D E hn hI)
end
-- L19
section
variable {F : Fx} {vs : List (Option Value)} {D D' : Led} {s : Shared}
variable {Q : Value → List (Option Value) → Led → Prop}
/-- a new object: its __init__ walked from the empty dict -/
theorem new_ (ok : F.Ok) {d : Dfn} {C f : Addr} (dk : d.Ok f) {args : List Value} {ps ls : List Str} (hm : makesIn F.K C = true) (hi : findIn F.K (.ref C) (Str.ofString "__init__") = some (some (.ref f))) (hf : isFn F.K (.ref f) = true)
    (hb : ∀ x, bindArgs d.fn ⟨.ref x :: args, []⟩ = pure (ps.zip (.ref x :: args))) (hxs : d.xs = ps ++ ls) (hln : args.length + 1 = ps.length) (hlv : F.lv < 40)
    (h : ∀ x dx, (∀ p ∈ D, p.1 ≠ dx) → CallOk F ((x, instObj C dx) :: (dx, dictOf [] 0) :: D) d f (F.A.under (.builtin "type.__call__" ⟨.ref C :: args, []⟩)) ((.ref x :: args).map some ++ List.replicate ls.length none) fun v D' => v = .none ∧ Q (.ref x) vs D') : HT F vs D (call (.ref C) args) Q := fun s hs => by
  refine call_cls hs.fr ok.K hs.nw hm hi hf fun x dx h' F' N' l1 l2 => ?_
  have hs' : St F vs ((x, instObj C dx) :: (dx, dictOf [] 0) :: D) { s with heap := h' } := by
    refine ⟨F', N', ?_, hs.ln, hs.gens, hs.os⟩
    refine List.nodup_cons.mpr ⟨fun hm => ?_, List.nodup_cons.mpr ⟨fun hm => ?_, hs.nd⟩⟩
    · rcases List.mem_cons.mp hm with e | hm
      · have e : x = dx := e
        exact absurd l2 (by rw [e]; exact Nat.lt_irrefl _)
      · obtain ⟨p, hp, e⟩ := List.mem_map.mp hm
        have e : p.1 = x := e
        have := l1 p hp
        rw [e] at this
        exact Nat.lt_irrefl _ (Nat.lt_trans this l2)
    · obtain ⟨p, hp, e⟩ := List.mem_map.mp hm
      exact Nat.lt_irrefl _ (e ▸ l1 p hp)
  refine codeD_ ok dk (BindsTo.of_eq (hb x)) (fun y hy => dk.loc _ ?_) (by rw [hxs]; exact lay_binds (by simpa using hln) (hxs ▸ dk.nd)) (by rw [hxs]; simp; omega) hlv ?_ ?_ ?_ ?_ hs' fun g L ok' => (h x dx (fun p hp e => Nat.lt_irrefl _ (e ▸ l1 p hp)) g L ok').mono fun fl _ D' q s' hs' => ?_
  · rw [hxs]
    exact List.mem_append.mpr (.inl (List.of_mem_zip hy).1)
  · exact ok.fr
  · exact ok.hd
  · have := ok.dep; show F.A.depth + 1 ≤ _; omega
  · have := ok.uni
    have e : (Code.builtin "type.__call__" ⟨.ref C :: args, []⟩ : Code).cUnits ≤ 4 := Nat.le_of_ble_eq_true rfl
    show F.A.units + (Code.builtin "type.__call__" ⟨.ref C :: args, []⟩ : Code).cUnits ≤ _
    omega
  · obtain ⟨e, q⟩ := q
    exact ⟨e, _, _, hs', q⟩
end
-- L20
section
variable {F : Fx} {vs : List (Option Value)} {D D' : Led} {s : Shared}
variable {QU : Unit → List (Option Value) → Led → Prop}
/-- an attribute is set, perhaps a new one: the dict then holds the key's token -/
theorem setT_ (ok : F.Ok) {x C dx : Addr} {es : List DictEntry} {es' : Tok → List DictEntry} {n : Nat} {n' : Nat} {name : Str} {v : Value} {f : Obj → Led} (h1 : (x, instObj C dx) ∈ D) (hz : Zip dx (dictOf es n) D f)
    (f1 : findIn F.K (.ref C) (Str.ofString "__setattr__") = some (some (.builtin "object.__setattr__"))) (f2 : plainOver F.K C = true) (f3 : takerIn F.K C name = some none) (f4 : hasDictIn F.K C = true) (g : (getL name es).isSome = true)
    (hp : ∀ t, (putL name (PyData.keyHash F.w.params name) (.str name t) v es, putN name es n) = (es' t, n')) (hl : ∀ t, (es' t).length ≤ 1000) (h : ∀ t, QU () vs (f (dictOf (es' t) n'))) : HT F vs D (setAttr (.ref x) name v) QU :=
  fun s hs => set_dict hs.fr ok.K hs.nw (InstAt.of_news hs.nw h1 hz.mem) rfl f1 f2 f3 f4 g (hp _) ((hz.up _).upd hs.nd) (hl _) fun h' F' N' => ⟨_, _, hs.turn (hz.up _) F' N', h _⟩
end
theorem ag_sa' (P : Params) : findIn (KK P) (.ref 116) (Str.ofString "__setattr__") = some (some (.builtin "object.__setattr__")) := by kernel_rfl
theorem ag_n0 {P : Params} {v : Value} (t : Tok) : (putL (Str.ofString "nodes") (PyData.keyHash P (Str.ofString "nodes")) (.str (Str.ofString "nodes") t) v [], putN (Str.ofString "nodes") [] 0) = ([ent P "nodes" t v], 1) := by kernel_rfl
theorem ag_n1 {P : Params} {v0 v : Value} {t0 : Tok} (t : Tok) : (putL (Str.ofString "inputs") (PyData.keyHash P (Str.ofString "inputs")) (.str (Str.ofString "inputs") t) v [ent P "nodes" t0 v0], putN (Str.ofString "inputs") [ent P "nodes" t0 v0] 1) = ([ent P "nodes" t0 v0, ent P "inputs" t v], 2) := by kernel_rfl
theorem ag_n2 {P : Params} {v0 v1 v : Value} {t0 t1 : Tok} (t : Tok) : (putL (Str.ofString "outputs") (PyData.keyHash P (Str.ofString "outputs")) (.str (Str.ofString "outputs") t) v [ent P "nodes" t0 v0, ent P "inputs" t1 v1], putN (Str.ofString "outputs") [ent P "nodes" t0 v0, ent P "inputs" t1 v1] 2) = ([ent P "nodes" t0 v0, ent P "inputs" t1 v1, ent P "outputs" t v], 3) := by kernel_rfl
theorem ag_n3 {P : Params} {v0 v1 v2 v : Value} {t0 t1 t2 : Tok} (t : Tok) : (putL (Str.ofString "table") (PyData.keyHash P (Str.ofString "table")) (.str (Str.ofString "table") t) v [ent P "nodes" t0 v0, ent P "inputs" t1 v1, ent P "outputs" t2 v2], putN (Str.ofString "table") [ent P "nodes" t0 v0, ent P "inputs" t1 v1, ent P "outputs" t2 v2] 3) = ([ent P "nodes" t0 v0, ent P "inputs" t1 v1, ent P "outputs" t2 v2, ent P "table" t v], 4) := by kernel_rfl
theorem sg_n0 {P : Params} { v : Value} (t : Tok) : (putL (Str.ofString "aig") (PyData.keyHash P (Str.ofString "aig")) (.str (Str.ofString "aig") t) v [], putN (Str.ofString "aig") [] 0) = ([ent P "aig" t v], 1) := by kernel_rfl
theorem sg_n1 {P : Params} {v0 v : Value} {t0 : Tok} (t : Tok) : (putL (Str.ofString "count") (PyData.keyHash P (Str.ofString "count")) (.str (Str.ofString "count") t) v [ent P "aig" t0 v0], putN (Str.ofString "count") [ent P "aig" t0 v0] 1) = ([ent P "aig" t0 v0, ent P "count" t v], 2) := by kernel_rfl
theorem sg_n2 {P : Params} {v0 v1 v : Value} {t0 t1 : Tok} (t : Tok) : (putL (Str.ofString "rows") (PyData.keyHash P (Str.ofString "rows")) (.str (Str.ofString "rows") t) v [ent P "aig" t0 v0, ent P "count" t1 v1], putN (Str.ofString "rows") [ent P "aig" t0 v0, ent P "count" t1 v1] 2) = ([ent P "aig" t0 v0, ent P "count" t1 v1, ent P "rows" t v], 3) := by kernel_rfl
theorem sg_n3 {P : Params} {v0 v1 v2 v : Value} {t0 t1 t2 : Tok} (t : Tok) : (putL (Str.ofString "kept") (PyData.keyHash P (Str.ofString "kept")) (.str (Str.ofString "kept") t) v [ent P "aig" t0 v0, ent P "count" t1 v1, ent P "rows" t2 v2], putN (Str.ofString "kept") [ent P "aig" t0 v0, ent P "count" t1 v1, ent P "rows" t2 v2] 3) = ([ent P "aig" t0 v0, ent P "count" t1 v1, ent P "rows" t2 v2, ent P "kept" t v], 4) := by kernel_rfl
theorem sg_n4 {P : Params} {v0 v1 v2 v3 v : Value} {t0 t1 t2 t3 : Tok} (t : Tok) : (putL (Str.ofString "values") (PyData.keyHash P (Str.ofString "values")) (.str (Str.ofString "values") t) v [ent P "aig" t0 v0, ent P "count" t1 v1, ent P "rows" t2 v2, ent P "kept" t3 v3], putN (Str.ofString "values") [ent P "aig" t0 v0, ent P "count" t1 v1, ent P "rows" t2 v2, ent P "kept" t3 v3] 4) = ([ent P "aig" t0 v0, ent P "count" t1 v1, ent P "rows" t2 v2, ent P "kept" t3 v3, ent P "values" t v], 5) := by kernel_rfl
theorem sg_n5 {P : Params} {v0 v1 v2 v3 v4 v : Value} {t0 t1 t2 t3 t4 : Tok} (t : Tok) : (putL (Str.ofString "classes") (PyData.keyHash P (Str.ofString "classes")) (.str (Str.ofString "classes") t) v [ent P "aig" t0 v0, ent P "count" t1 v1, ent P "rows" t2 v2, ent P "kept" t3 v3, ent P "values" t4 v4], putN (Str.ofString "classes") [ent P "aig" t0 v0, ent P "count" t1 v1, ent P "rows" t2 v2, ent P "kept" t3 v3, ent P "values" t4 v4] 5) = ([ent P "aig" t0 v0, ent P "count" t1 v1, ent P "rows" t2 v2, ent P "kept" t3 v3, ent P "values" t4 v4, ent P "classes" t v], 6) := by kernel_rfl
-- L21
/-- a dict of pairs to naturals, its keys in the ledger -/
noncomputable def TO (w : World) (R : Led) (o : Obj) (n : Nat) : Prop := o.ExactDict ∧ ∃ (es : Array DictEntry) (ep : Nat) (xs : List (List Int × Addr × Value)), o.data = .dict es ep ∧ es.toList = xs.map (entryOfKey (tupleKind (IK w))) ∧ (xs.map (·.1)).Nodup ∧
  (∀ x ∈ xs, ∃ k, (x.2.1, k) ∈ R ∧ TupKeyObj (IK w) x.1 k) ∧ (∀ x ∈ xs, ∃ k t, x.2.2 = VN k t) ∧ xs.length ≤ n
theorem TO.mono {w R R' o n} (h : TO w R o n) (hs : ∀ p ∈ R, p ∈ R') : TO w R' o n :=
  let ⟨h0, es, ep, xs, h1, h2, h3, h4, h5, h6⟩ := h
  ⟨h0, es, ep, xs, h1, h2, h3, fun x hx => let ⟨k, a, b⟩ := h4 x hx; ⟨k, hs _ a, b⟩, h5, h6⟩
theorem TO.ofEmpty {w R o} (h : DI w o []) : TO w R o 0 := by
  obtain ⟨es, ep, hc, hdat, _, hp, _⟩ := h
  have he : es.toList = [] := List.length_eq_zero_iff.mp hp.length
  exact ⟨hc, es, ep, [], hdat, he, List.nodup_nil, fun _ hx => by simp at hx, fun _ hx => by simp at hx, Nat.le_refl _⟩
theorem pairKey {w : World} {b c : Nat} {t u : Tok} : TupKeyObj (IK w) [(b : Int), (c : Int)] (tupOf [VN b t, VN c u]) := TupKeyObj.made (.cons (ik_is _ _ _) (.cons (ik_is _ _ _) .nil))
theorem atKey_mem {xs : List (List Int × Addr × Value)} {k : List Int} {p : Addr × Value} (h : atKey xs k = some p) : (k, p) ∈ xs := by
  unfold atKey at h
  obtain ⟨x, hx, e⟩ := Option.map_eq_some_iff.mp h
  have h1 := List.mem_of_find?_eq_some hx
  have h2 := List.find?_some hx
  have h2 : x.1 = k := by simpa using h2
  rw [← h2, ← e]; exact h1
section
variable {F : Fx} {vs : List (Option Value)} {D D' R : Led} {s : Shared}
variable {Q : Value → List (Option Value) → Led → Prop} {QU : Unit → List (Option Value) → Led → Prop} {QF : Flow → List (Option Value) → Led → Prop} {QM : Value × List Value → List (Option Value) → Led → Prop}
theorem TO.at (hs : St F vs D s) {d o n} (hm : (d, o) ∈ D) (hR : ∀ p ∈ R, p ∈ D) (h : TO F.w R o n) : ∃ xs, s.heap.DictOfH (tupleKind (IK F.w)) d xs ∧ (∀ x ∈ xs, ∃ k, (x.2.1, k) ∈ R ∧ TupKeyObj (IK F.w) x.1 k) ∧ (∀ x ∈ xs, ∃ k t, x.2.2 = VN k t) ∧ xs.length ≤ n := by
  obtain ⟨h0, es, ep, xs, h1, h2, h3, h4, h5, h6⟩ := h
  refine ⟨xs, ⟨o, es, ep, hs.get hm, h0, h1, h2, fun x hx => ?_, h3⟩, h4, h5, h6⟩
  obtain ⟨k, a, b⟩ := h4 x hx
  exact b.key (hs.get (hR _ a))
theorem tget_m {d o n} {pl : Sem Bool} (hm : (d, o) ∈ D) (hR : ∀ p ∈ R, p ∈ D) (h0 : TO F.w R o n) (h : QM (.builtin "dict.get", [.ref d]) vs D) : HT F vs D (getMethod (.ref d) "get" pl) QM := fun s hs => by
  obtain ⟨xs, hd, _⟩ := TO.at hs hm hR h0
  exact getMethod_builtin hd.typeIs PySem.F.plainAttrs_dict PySem.F.slot_dict_get PySem.F.type_dict_get (dictOfH_noDict hd) ⟨_, _, hs, h⟩
theorem tget_ (ok : F.Ok) {d a : Addr} {o : Obj} {n b c : Nat} {t u : Tok} {dflt : Value} (hm : (d, o) ∈ D) (hR : ∀ p ∈ R, p ∈ D) (h0 : TO F.w R o n) (ha : (a, tupOf [VN b t, VN c u]) ∈ D) (h1 : ∀ k t, Q (VN k t) vs D) (h2 : Q dflt vs D) :
    HT F vs D (call (.builtin "dict.get") [.ref d, .ref a, dflt]) Q := fun s hs => by
  obtain ⟨xs, hd, hk, hv, _⟩ := TO.at hs hm hR h0
  refine call_meetsIn PySem.F.slot_dict_get hd.typeIs PySem.F.entry_dict_get (PySem.F.args_dict_get_3 _ _ _) (meetsH_dict_get_default (tupleKind (IK F.w)) d a (notSys ok hs hm) dflt)
    ⟨tupleKind_room_in1 (by have := ok.uni; have := ok.lvl; show F.A.units + 1 < 9900; omega), [(b : Int), (c : Int)], xs, pairKey.key (hs.get ha), hd, ?_⟩
  refine ⟨_, _, hs.tok, ?_⟩
  cases e : atKey xs [(b : Int), (c : Int)] with
  | none => exact h2
  | some p =>
    obtain ⟨k, t, e2⟩ := hv _ (atKey_mem e)
    show Q p.2 vs D
    rw [show p.2 = VN k t from e2]
    exact h1 k t
theorem tset_ (ok : F.Ok) {d a : Addr} {o : Obj} {n b c k : Nat} {t u x : Tok} {f : Obj → Led} (hz : Zip d o D f) (hR : ∀ p ∈ R, p ∈ D) (h0 : TO F.w R o n) (ha : (a, tupOf [VN b t, VN c u]) ∈ D) (hn : n ≤ 1000)
    (h : ∀ o', TO F.w ((a, tupOf [VN b t, VN c u]) :: R) o' (n + 1) → QU () vs (f o')) : HT F vs D (setItem (.ref d) (.ref a) (VN k x)) QU := fun s hs => by
  obtain ⟨xs, hd, hk, hv, hl⟩ := TO.at hs hz.mem hR h0
  refine wpAny_setItem_heap (knd := tupleKind (IK F.w)) (k := [(b : Int), (c : Int)]) (hsz := by simp only [sizeLine]; omega) (tupleKind_room_in1 (by have := ok.uni; have := ok.lvl; show F.A.units + 1 < 9900; omega)) (pairKey.key (hs.get ha)) hd fun h' hm' hb => ?_
  obtain ⟨o', es, ep, g1, g2, g3, g4, g5, g6⟩ := hm'
  refine ⟨_, _, hs.upd (hz.up o') hb g1, h o' ⟨g2, es, ep, _, g3, g4, g6, fun y hy => ?_, fun y hy => ?_, ?_⟩⟩
  · rcases mem_storedH hy with ⟨z, hz, e1, e2⟩ | ⟨e1, e2⟩
    · obtain ⟨k, h1, h2⟩ := hk z hz
      exact ⟨k, by rw [e2]; exact .tail _ h1, by rw [e1]; exact h2⟩
    · exact ⟨_, by rw [e2]; exact .head _, by rw [e1]; exact pairKey⟩
  · unfold storedH at hy
    split at hy
    · obtain ⟨z, hz, rfl⟩ := List.mem_map.mp hy
      unfold putAt
      split
      · exact ⟨_, _, rfl⟩
      · exact hv z hz
    · rcases List.mem_append.mp hy with hy | hy
      · exact hv y hy
      · rw [List.mem_singleton.mp hy]; exact ⟨_, _, rfl⟩
  · unfold storedH
    split
    · simp; omega
    · simp; omega
/-- l, r = (r, l) of two local names -/
theorem AssignSw_ (ok : F.Ok) {x y : Str} {px py : Pos} {k tpos value pos} {v1 v2 : Value} {vs1 vs2 : List (Option Value)} (p1 : Put F.xs vs y v2 vs1) (p2 : Put F.xs vs1 x v1 vs2)
    (hv : HT F vs D (eval value F.env) fun v vs' D' => ∃ b, v = .ref b ∧ vs' = vs ∧ (b, tupOf [v1, v2]) ∈ D' ∧ QF .next vs2 D')
    (hs : swapsWithSole [.Tuple [.Name x px, .Name y py] k tpos] value pos.line F.env = pure false := by rfl)
    (hw : swappedStores [.Tuple [.Name x px, .Name y py] k tpos] value F.env = pure (some [x, y]) := by rfl) : HT F vs D (exec (.Assign [.Tuple [.Name x px, .Name y py] k tpos] value pos) F.env) QF := fun s hs' =>
  Assign_Tuple_swapped (hv.use hs' fun v s1 vs1' D1 h1 ⟨b, e1, e2, hm, hq⟩ => by
    subst e1 e2
    refine unpackItemsN_ (items := #[v1, v2]) h1.fr h1.nw ⟨_, h1.get hm, rfl, _, rfl⟩ ok.hd rfl fun h' F' N' => ?_
    exact assignInOrder_cons (bindName_ (HT.use (store_ ok p1 (QU := fun _ vs' D' => vs' = vs1 ∧ D' = _) ⟨rfl, rfl⟩) ⟨F', N', h1.nd, h1.ln, h1.gens, h1.os⟩ fun _ s2 _ _ h3 ⟨e1, e2⟩ => by
      subst e1 e2
      exact assignInOrder_cons (bindName_ (HT.use (store_ ok p2 (QU := fun _ vs' D' => vs' = vs2 ∧ D' = _) ⟨rfl, rfl⟩) h3 fun _ s3 _ _ h2 ⟨e3, e4⟩ => by
        subst e3 e4
        exact assignInOrder_nil ⟨_, _, h2, hq⟩))))) hs hw
end
-- L22
/-- a ledger with one entry taken out -/
inductive Pick (p : Addr × Obj) : Led → Led → Prop
  | head {r} : Pick p (p :: r) r
  | tail {q r r'} : Pick p r r' → Pick p (q :: r) (q :: r')
  | app {C r r'} : Pick p r r' → Pick p (C ++ r) (C ++ r')
theorem Pick.perm {p D D'} (h : Pick p D D') : (p :: D').Perm D := by
  induction h with
  | head => exact .refl _
  | @tail q r r' _ ih => exact (List.Perm.swap q p r').trans (ih.cons q)
  | @app C r r' _ ih => exact (List.perm_middle (a := p) (l₁ := C) (l₂ := r')).symm.trans (ih.append_left C)
theorem Le.app {C R R' : Led} (h : Le R R') : Le (C ++ R) (C ++ R') := by
  refine ⟨fun p hp => ?_, fun hn => ?_⟩
  · rcases List.mem_append.mp hp with hp | hp
    · exact List.mem_append.mpr (.inl hp)
    · exact List.mem_append.mpr (.inr (h.1 p hp))
  · rw [List.map_append] at hn ⊢
    obtain ⟨h1, h2, h3⟩ := List.nodup_append.mp hn
    refine List.nodup_append.mpr ⟨h1, h.2 h2, fun a ha b hb => ?_⟩
    obtain ⟨q, hq, e⟩ := List.mem_map.mp hb
    exact h3 a ha b (List.mem_map.mpr ⟨q, h.1 q hq, e⟩)
theorem Le.cons {p : Addr × Obj} {R R' : Led} (h : Le R R') : Le (p :: R) (p :: R') := Le.app (C := [p]) h
theorem Le.pick {p D D' D1} (hp : Pick p D' D1) (h : Le D D1) : Le (p :: D) D' := (Le.cons h).trans (Le.of_perm hp.perm)
theorem Le.skip {p : Addr × Obj} {R R' : Led} (h : Le R R') : Le R (p :: R') := h.trans (Le.of_sub (List.sublist_cons_self _ _))
theorem Le.skips {C R R' : Led} (h : Le R R') : Le R (C ++ R') := h.trans (Le.of_sub (List.sublist_append_right _ _))
theorem Le.nil {R : Led} : Le [] R := ⟨fun _ h => (nomatch h), fun _ => List.nodup_nil⟩
/-- entries of the front pass behind a middle -/
theorem Le.mid {C : Led} {p : Addr × Obj} {R : Led} : Le (C ++ p :: R) (p :: (C ++ R)) := Le.of_perm List.perm_middle
theorem Le.mids {C E R : Led} : Le (C ++ (E ++ R)) (E ++ (C ++ R)) := Le.of_perm (by
  rw [← List.append_assoc, ← List.append_assoc]; exact List.perm_append_comm.append_right R)
-- L23
/-- pairs of naturals under their tokens -/
inductive MD : List (Int × Value) → List (Nat × Nat) → Prop
  | nil : MD [] []
  | cons {k v t kvs ms} : MD kvs ms → MD ((((k : Nat) : Int), VN v t) :: kvs) ((k, v) :: ms)
theorem MD.len {kvs ms} (h : MD kvs ms) : kvs.length = ms.length := by
  induction h with
  | nil => rfl
  | cons _ ih => simp [ih]
theorem MD.at {kvs ms} (h : MD kvs ms) (nd : (ms.map (·.1)).Nodup) {k v : Nat} (hm : (k, v) ∈ ms) : ∃ t, valueAt kvs (k : Int) = some (VN v t) := by
  induction h with
  | nil => cases hm
  | @cons j u t kvs ms h ih =>
    have hn := List.nodup_cons.mp nd
    rw [valueAt_cons]
    rcases List.mem_cons.mp hm with e | hm
    · cases e; exact ⟨t, if_pos rfl⟩
    · rw [if_neg (fun e => hn.1 (List.mem_map.mpr ⟨_, hm, by show k = j; omega⟩))]
      exact ih hn.2 hm
theorem MD.none {kvs ms} (h : MD kvs ms) {k : Nat} (hk : k ∉ ms.map (·.1)) : ¬ kvs.any (fun kv => kv.1 = (k : Int)) = true := by
  induction h with
  | nil => simp
  | @cons j u t kvs ms h ih =>
    simp only [List.map_cons, List.mem_cons, not_or] at hk
    rw [List.any_cons]
    simp only [Bool.or_eq_true, decide_eq_true_eq, not_or]
    exact ⟨by omega, ih hk.2⟩
theorem MD.snoc {kvs ms} (h : MD kvs ms) {k v : Nat} {t : Tok} : MD (kvs ++ [((k : Int), VN v t)]) (ms ++ [(k, v)]) := by
  induction h with
  | nil => exact .cons .nil
  | cons _ ih => exact .cons ih
theorem MD.stored {kvs ms} (h : MD kvs ms) {k v : Nat} {t : Tok} (hk : k ∉ ms.map (·.1)) : MD (stored kvs (k : Int) (VN v t)) (ms ++ [(k, v)]) := by
  unfold PySem.stored
  rw [if_neg (h.none hk)]
  exact h.snoc
theorem MD.hits {A : Around} {s : Shared} {kb ms} (hb : MD kb ms) (nd : (ms.map (·.1)).Nodup) {ka ma} (ha : MD ka ma) (hs : ∀ p ∈ ma, p ∈ ms) : KeqHits A s kb ka true := by
  induction ha with
  | nil => exact .nil
  | @cons k v t kvs ma _ ih =>
    obtain ⟨u, e⟩ := hb.at nd (hs _ (.head _))
    have z : SeqAt.EqAt A s (VN v t) (VN v u) true := by
      have := keq_flat (A := A) (s := s) (PyProof.V.Flat.int (v : Int) t) (PyProof.V.Flat.int (v : Int) u)
      simpa [PyData.eqv] using this
    exact KeqHits.hit (e := true) (b := true) e z (ih fun p hp => hs p (.tail _ hp))
/-- a graph's pair as data -/
noncomputable def pdat : Option (Nat × Nat) → Dat
  | none => .none
  | some p => .tuple [.int p.1, .int p.2]
theorem PV.dat {R v p} (h : PV R v p) : DatIn R v (pdat p) := by
  cases p with
  | none => cases h; exact .none
  | some p =>
    obtain ⟨b, t, u, rfl, hm⟩ := h
    exact .tuple hm (.cons (.int _ _) (.cons (.int _ _) .nil))
theorem pdat_ok (p : Option (Nat × Nat)) : kqdOk 8 (pdat p) = true := by cases p <;> rfl
theorem datAll_of {R : Led} : ∀ {its : List Value} {ps : List (Option (Nat × Nat))}, its.length = ps.length → (∀ (i : Nat) p, ps[i]? = some p → ∃ v, its[i]? = some v ∧ PV R v p) → DatAll R its (ps.map pdat)
  | [], [], _, _ => .nil
  | v :: its, p :: ps, hl, h => by
    obtain ⟨v', e, hv⟩ := h 0 p rfl
    cases e
    exact .cons hv.dat (datAll_of (by simpa using hl) fun i q hq => by simpa using h (i + 1) q (by simpa using hq))
theorem NA.datAll {R : Led} {its ws} (h : NA its ws) : DatAll R its (ws.map fun n : Nat => Dat.int (n : Int)) := by
  induction h with
  | nil => exact .nil
  | cons _ ih => exact .cons (.int _ _) ih
section
variable {F : Fx} {vs : List (Option Value)} {D D' R R' : Led} {s : Shared}
variable {Q : Value → List (Option Value) → Led → Prop} {QU : Unit → List (Option Value) → Led → Prop} {QF : Flow → List (Option Value) → Led → Prop}
theorem room64 (ok : F.Ok) : F.A.units + 64 < cLine := by have := ok.uni; have := ok.lvl; show F.A.units + 64 < 9900; omega
theorem neMD_ (ok : F.Ok) {a b : Addr} {oa ob : Obj} {ka kb} {ms : List (Nat × Nat)} (ma : (a, oa) ∈ D) (mb : (b, ob) ∈ D) (da : DI F.w oa ka) (db : DI F.w ob kb) (ha : MD ka ms) (hb : MD kb ms) (nd : (ms.map (·.1)).Nodup) (h : Q (.bool false) vs D) : HT F vs D (compareOp .NotEq (.ref a) (.ref b)) Q := fun s hs =>
  kne_pairs (r := true) hs.nw ma mb da db (notSys ok hs ma) (notSys ok hs mb) (by rw [ha.len, hb.len]) (by have := room64 ok; omega) (hb.hits nd ha fun _ hp => hp) ⟨_, _, hs, h⟩
theorem neIL_ (ok : F.Ok) {a b : Addr} {oa ob : Obj} {ws : List Nat} (ma : (a, oa) ∈ D) (mb : (b, ob) ∈ D) (ha : IL oa ws) (hb : IL ob ws) (h : Q (.bool false) vs D) : HT F vs D (compareOp .NotEq (.ref a) (.ref b)) Q := fun s hs => by
  obtain ⟨xs, n, rfl, hx⟩ := ha
  obtain ⟨ys, k, rfl, hy⟩ := hb
  refine ke_ne_ints (PySem.IsL.isList (n := n) (hs.get ma)) (PySem.IsL.isList (n := k) (hs.get mb)) hx.ints hy.ints (room64 ok) ⟨_, _, hs, ?_⟩
  rw [decide_eq_true rfl]; exact h
theorem neNL_ (ok : F.Ok) {a b : Addr} {oa ob : Obj} {ps : List (Option (Nat × Nat))} (ma : (a, oa) ∈ D) (mb : (b, ob) ∈ D) (ha : NL R oa ps) (hb : NL R' ob ps) (hR : ∀ p ∈ R, p ∈ D) (hR' : ∀ p ∈ R', p ∈ D) (h : Q (.bool false) vs D) : HT F vs D (compareOp .NotEq (.ref a) (.ref b)) Q := fun s hs => by
  obtain ⟨xs, n, rfl, hl, hx⟩ := ha
  obtain ⟨ys, k, rfl, hl', hy⟩ := hb
  refine kqd_ne hs.nw ma rfl rfl (datAll_of hl hx) hR mb rfl rfl (datAll_of hl' hy) hR' ?_ ?_ (room64 ok) ⟨_, _, hs, ?_⟩
  · intro d hd; obtain ⟨p, _, rfl⟩ := List.mem_map.mp hd; exact pdat_ok p
  · intro d hd; obtain ⟨p, _, rfl⟩ := List.mem_map.mp hd; exact pdat_ok p
  · simpa using h
theorem inIL_ (ok : F.Ok) {a : Addr} {oa : Obj} {ws : List Nat} {m : Nat} {t : Tok} (ma : (a, oa) ∈ D) (ha : IL oa ws) (h : Q (.bool (decide (m ∈ ws))) vs D) : HT F vs D (compareOp .In (VN m t) (.ref a)) Q := fun s hs => by
  obtain ⟨xs, n, rfl, hx⟩ := ha
  refine kqd_isIn (n₁ := []) (n₂ := []) hs.nw ma rfl rfl hx.datAll (fun _ hp => nomatch hp) (.int _ _) (fun _ hp => nomatch hp) ?_ rfl (room64 ok) ⟨_, _, hs, ?_⟩
  · intro d hd; obtain ⟨p, _, rfl⟩ := List.mem_map.mp hd; rfl
  · have e : ∀ inst : Decidable (Dat.int (m : Int) ∈ ws.map fun n : Nat => Dat.int (n : Int)), decide (m ∈ ws) = (@decide (Dat.int (m : Int) ∈ ws.map fun n : Nat => Dat.int (n : Int)) inst) := fun inst => by
      rw [Bool.eq_iff_iff, decide_eq_true_eq, decide_eq_true_eq, List.mem_map]
      constructor
      · intro hm; exact ⟨m, hm, rfl⟩
      · rintro ⟨k, hk, e⟩
        injection e with e
        have : k = m := by omega
        exact this ▸ hk
    rw [← e _]; exact h
theorem inTup_ (ok : F.Ok) {a : Addr} {x y m : Nat} {t t1 t2 : Tok} (ma : (a, tupOf [VN x t1, VN y t2]) ∈ D) (h : Q (.bool (decide (m = x ∨ m = y))) vs D) : HT F vs D (compareOp .In (VN m t) (.ref a)) Q := fun s hs => by
  refine SeqAt.in_tuple_reads (xs := [.int x, .int y]) (reads_tuple_at (hs.get ma) rfl rfl (ReadsAll.cons (Reads.int _ _) (ReadsAll.cons (Reads.int _ _) ReadsAll.nil))) (Reads.int (m : Int) t) rfl rfl (by have := room64 ok; simp only [PyData.depth]; omega) ⟨_, _, hs, ?_⟩
  have e : (([.int (x : Int), .int (y : Int)] : List PyData).any fun z => PyData.eqv z (.int (m : Int))) = decide (m = x ∨ m = y) := by
    rw [Bool.eq_iff_iff]
    simp only [List.any_cons, List.any_nil, PyData.eqv, Bool.or_false, Bool.or_eq_true, beq_iff_eq, decide_eq_true_eq]
    omega
  rw [e]; exact h
end
-- L24
theorem NA.ofInts : ∀ {vs : List Value} {ns : List Nat}, IntsAre vs (ns.map Int.ofNat) → NA vs ns
  | [], [], _ => .nil
  | v :: vs, n :: ns, h => by
    cases h with
    | cons _ t h => exact .cons (NA.ofInts h)
  | [], n :: ns, h => by cases h
  | v :: vs, [], h => by cases h
/-- a list of ints of any sign -/
noncomputable def IA (o : Obj) (zs : List Int) : Prop := ∃ (its : List Value) (n : Nat), o = W.listOf its.toArray n ∧ IntsAre its zs
theorem nl_app {R : Led} {a b : List (Option (Nat × Nat))} {its : List Value} (hl : its.length = a.length) (ha : ∀ (i : Nat) p, a[i]? = some p → ∃ v, its[i]? = some v ∧ PV R v p) {v : Value} {p} (hv : PV R v p) : ∀ (i : Nat) q, (a ++ [p])[i]? = some q → ∃ v', (its ++ [v])[i]? = some v' ∧ PV R v' q := by
  intro i q hq
  rw [List.getElem?_append] at hq ⊢
  rw [hl]
  split at hq
  · rename_i hi; rw [if_pos hi]; exact ha i q hq
  · rename_i hi
    rw [if_neg hi]
    cases hj : i - a.length with
    | zero => rw [hj] at hq; simp at hq; subst hq; exact ⟨v, rfl, hv⟩
    | succ j => rw [hj] at hq; simp at hq
theorem NL.nil {R : Led} {n : Nat} : NL R (W.listOf ([] : List Value).toArray n) [] := ⟨[], n, rfl, rfl, fun i p h => by simp at h⟩
section
variable {F : Fx} {vs : List (Option Value)} {D D' R : Led} {s : Shared}
variable {Q : Value → List (Option Value) → Led → Prop} {QU : Unit → List (Option Value) → Led → Prop} {QF : Flow → List (Option Value) → Led → Prop}
theorem pushed (hs : St F vs D s) {h' : Heap} {o : Obj} (hk : ∀ b o, s.heap.get? b = some o → h'.get? b = some o) (hD : h'.get? s.heap.objs.size = some o) {k : Nat} : St F vs ((s.heap.objs.size, o) :: D) { s with heap := h', toks := k } :=
  hs.cons (hs.fr.keeps hk) (news_pushed hs.fr hs.nw hk hD rfl) (fun p hp => hs.ne hp)
theorem listRange_ (ok : F.Ok) {r : Addr} {n : Nat} {t u w : Tok} (hm : (r, rngOf 0 n 1 t u w) ∈ D) (hn : n ≤ 1000) (h : ∀ a o, IL o (List.range n) → (∀ p ∈ D, p.1 ≠ a) → Q (.ref a) vs ((a, o) :: D)) : HT F vs D (call (.type "list") [.ref r]) Q := fun s hs => by
  have hz : Builtin.Range.rangeSize 0 (n : Int) 1 = (n : Nat) := by
    rw [rangeSize_one]
    split <;> omega
  refine call_list_range ok.hd (hs.get hm) (small_one (by omega) (by omega) (by omega) (by omega)) hz (by omega) fun h' tk acc c hk hS hacc => ?_
  refine ⟨_, _, pushed hs hk hS, h _ _ ⟨acc.toList, c, rfl, NA.ofGet (by simp [hacc.1]) fun i v m h1 h2 => ?_⟩ fun p hp => hs.ne hp⟩
  obtain ⟨t, e⟩ := hacc.2 i v (by simpa using h1)
  have h2 : i < n ∧ i = m := by
    rw [List.getElem?_eq_some_iff] at h2
    obtain ⟨hi, e⟩ := h2
    simp at hi e
    exact ⟨hi, e⟩
  refine ⟨t, ?_⟩
  rw [e, ← h2.2]
  show Value.int _ t = Value.int _ t
  congr 1
  omega
theorem mulNone_ {l : Addr} {k : Nat} {u : Tok} {m : Nat} (hm : (l, W.listOf [Value.none].toArray m) ∈ D) (hk : k ≤ 1000) (h : ∀ a o, NL [] o (List.replicate k none) → (∀ p ∈ D, p.1 ≠ a) → Q (.ref a) vs ((a, o) :: D)) : HT F vs D (binaryOp .Mult (.ref l) (VN k u)) Q := fun s hs =>
  mul_list hs.fr hs.nw (hs.get hm) (by omega) (by omega) (by simp; omega) fun h' F' N' => by
    rw [listMul_foldl_if] at N'
    have e : (List.replicate ((k : Int)).toNat [Value.none]).flatten = List.replicate k Value.none := by
      rw [Int.toNat_natCast]
      clear h hk N'
      induction k with
      | zero => rfl
      | succ k ih => simp [List.replicate_succ, ih]
    refine ⟨_, _, hs.cons F' N' (fun p hp => hs.ne hp), h _ _ ⟨List.replicate k Value.none, 0, ?_, by simp, fun i p hp => ?_⟩ fun p hp => hs.ne hp⟩
    · rw [← e]
    · rw [List.getElem?_replicate] at hp
      split at hp
      · rename_i hi
        cases hp
        exact ⟨.none, by simp [hi], rfl⟩
      · cases hp
theorem intN_ {a : Int} {t : Tok} (h : Q (.int a t) vs D) : HT F vs D (call (.type "int") [.int a t]) Q := fun s hs => call_int_int ⟨_, _, hs, h⟩
theorem modZ_ {a : Int} {b : Nat} {t u : Tok} (hb : 0 < b) (h : ∀ n t', n < b → Q (VN n t') vs D) : HT F vs D (binaryOp .Mod (.int a t) (VN b u)) Q := fun s hs => PyProof.Rows.mod_int (by omega) ⟨_, _, hs.tok, by
  have h1 : 0 ≤ a.fmod (b : Int) := Int.fmod_nonneg_of_pos _ (by omega)
  have h2 : a.fmod (b : Int) < b := Int.fmod_lt_of_pos _ (by omega)
  have e : a.fmod (b : Int) = (((a.fmod (b : Int)).toNat : Nat) : Int) := by omega
  rw [e]; exact h _ _ (by omega)⟩
theorem powN_ {a b : Nat} {t u : Tok} (hb : b ≤ 1000) (ha : a < 2 ^ 64) (h : ∀ t', Q (VN (a ^ b) t') vs D) : HT F vs D (binaryOp .Pow (VN a t) (VN b u)) Q := fun s hs => pow_int_small (by omega) (by omega) (by omega) ⟨_, _, hs.tok, by
  have e : (a : Int) ^ ((b : Int)).toNat = ((a ^ b : Nat) : Int) := by simp
  rw [e]; exact h _⟩
/-- xs[k:] -/
theorem sliceFrom_ {value lower : PySem.Expr} {sp pos : Pos}
    (hv : HT F vs D (eval value F.env) fun v vs1 D1 => HT F vs1 D1 (eval lower F.env) fun i vs2 D2 => ∃ l o ws k t, v = .ref l ∧ i = VN k t ∧ (l, o) ∈ D2 ∧ IL o ws ∧ ws.length ≤ 1000 ∧ ∀ a o', IL o' (ws.drop k) → Q (.ref a) vs2 ((a, o') :: D2))
    (hs : ∀ l r, subscripted (.Slice (some lower) none none sp) false (.ref l) (.ref r) = operate [.ref r, .ref l] (getItem (.ref l) (.ref r)) := by intro _ _; with_unfolding_all rfl)
    (ht : ∀ l r, letTemporaryGo value (.ref l) r = Pure.pure () := by intro _ _; with_unfolding_all rfl) : HT F vs D (eval (.Subscript value (.Slice (some lower) none none sp) pos) F.env) Q := fun s hs' =>
  Subscript_ (hv.use hs' fun v s1 vs1 D1 h1 h2 => wpAny_Slice (h2.use h1 fun i s2 vs2 D2 h3 ⟨l, o, ws, k, t, e1, e2, hm, hi, hz, h⟩ => by
    subst e1 e2
    obtain ⟨its, n, rfl, hna⟩ := hi
    refine wpAny_pure (wpAny_pure ?_)
    refine slice_list (items := its.toArray) h3.fr h3.nw (PySem.IsL.isList (n := n) (h3.get hm)) (.int _ _) .none (fun h' F' N' => ?_) (hs _ _) (ht _) (by have := hna.len; simp [sizeLine]; omega)
    refine ⟨_, _, h3.cons F' N' (fun p hp => Nat.ne_of_lt (Nat.lt_succ_of_lt (h3.lt hp))) (k := s2.toks), h _ _ ⟨(slicePick its.toArray (some (k : Int)) none none).toList, 0, by simp, NA.ofInts ?_⟩⟩
    have := kmk_from hna.ints (x := (k : Int)) (by omega)
    rw [Int.toNat_natCast, ← List.map_drop] at this
    exact this))
/-- for x, y over a list of pairs -/
theorem forNL_ (ok : F.Ok) {x y : Str} {px py tk tpos} {iter : PySem.Expr} {body : List Stmt} {pos : Pos} {l : Addr} {o : Obj} {ps : List (Nat × Nat)} {jx jy : Nat} (hjx : F.xs[jx]? = some x) (hjy : F.xs[jy]? = some y) (hi : NL R o (ps.map some)) (I : Nat → List (Option Value) → Led → Prop)
    (hiter : HT F vs D (eval iter F.env) fun v vs1 D1 => v = .ref l ∧ I 0 vs1 D1) (mem : ∀ i vs D, I i vs D → (l, o) ∈ D ∧ (∀ p ∈ R, p ∈ D))
    (turn : ∀ i p t u vs D E, ps[i]? = some p → I i vs D → HT F ((vs.set jx (some (VN p.1 t))).set jy (some (VN p.2 u))) (D ++ E) (execs body F.env) (Turn (I (i + 1)) QF E))
    (done : ∀ vs D, I ps.length vs D → QF .next vs D) (hs : ∀ x, foldedSetIterable iter F.env x = pure x := by intro _; rfl) : HT F vs D (exec (.For (.Tuple [.Name x px, .Name y py] tk tpos) iter body [] pos) F.env) QF := by
  obtain ⟨its, m, rfl, hl, hv⟩ := hi
  have hl' : its.length = ps.length := by simpa using hl
  refine forList_ ok (l := l) (its := its) (n := m) I hiter (fun i vs D hI => ⟨m, (mem i vs D hI).1⟩) (fun {it v s i} hv' hit => ?_) (fun i v vs D E hv' hI => ?_) (fun vs D hI => done vs D (by rw [← hl']; exact hI)) hs
  · obtain ⟨q, hq⟩ : ∃ q, ps[i]? = some q := ⟨_, List.getElem?_eq_getElem (by rw [← hl']; exact (List.getElem?_eq_some_iff.mp hv').1)⟩
    obtain ⟨v', e, b, t, u, rfl, hb⟩ := hv i (some q) (by rw [List.getElem?_map, hq]; rfl)
    rw [hv'] at e
    cases e
    exact own_tuple rfl rfl hit
  · obtain ⟨q, hq⟩ : ∃ q, ps[i]? = some q := ⟨_, List.getElem?_eq_getElem (by rw [← hl']; exact (List.getElem?_eq_some_iff.mp hv').1)⟩
    obtain ⟨v', e, b, t, u, rfl, hb⟩ := hv i (some q) (by rw [List.getElem?_map, hq]; rfl)
    rw [hv'] at e
    cases e
    intro s hs
    have hln := hs.ln
    exact unpack2_ ok (List.mem_append.mpr (.inl ((mem i vs D hI).2 _ hb))) (put_set hjx hln) (put_set hjy (by simpa using hln)) (turn i q t u vs D E hq hI) s hs
end
local macro_rules | `(tactic| ktr_rel) => `(tactic| first | with_reducible exact At.head | (with_reducible apply At.tail; ktr_rel))
local macro_rules | `(tactic| tb_rel) => `(tactic| first | with_reducible exact Put.head | (with_reducible apply Put.tail; tb_rel))
local macro_rules | `(tactic| tb_start) => `(tactic| first | with_reducible exact Zip.head | (with_reducible apply Zip.tail; tb_start))
local macro_rules | `(tactic| k_mem) => `(tactic| first | with_reducible assumption | with_reducible exact List.mem_cons_self | (with_reducible apply List.mem_cons_of_mem; k_mem) | (with_reducible refine List.mem_append.mpr (.inr ?_); k_mem) | (with_reducible refine List.mem_append.mpr (.inl ?_); k_mem))
local macro_rules | `(tactic| ktr_units) => `(tactic| (first
  | (with_reducible first | refine ite_t ?_ | refine ite_f ?_ | refine execs_cons_ ?_ | refine execs_nil_ ?_ | refine Return_ ?_ | refine AugN_ ?_ | refine AugA_ ?_ | refine If_ ?_ | refine Sub_ ?_ | refine call_ ?_ | refine BinOp_' ?_ | refine IfExp_' ?_ | refine List_' ?_ | refine Tuple_' ?_ | refine None_ ?_ | refine Bool_ ?_ | refine items0_ ?_ | refine isNot_ ?_ | refine isAnd_ ?_ | refine isOr_ ?_ | refine isAnd0_ ?_ | refine isOr0_ ?_ | refine truthy_bool_ ?_ | refine eqN_ ?_ | refine neN_ ?_ | refine ltN_ ?_ | refine leN_ ?_ | refine gtN_ ?_ | refine geN_ ?_ | refine is_none_ ?_ | refine isNot_none_ ?_ | refine addN_ fun _ => ?_ | refine iaddN_ fun _ => ?_ | refine andN_ fun _ => ?_ | refine orN_ fun _ => ?_ | refine xorN_ fun _ => ?_ | refine iandN_ fun _ => ?_ | refine iorN_ fun _ => ?_ | refine shrN_ fun _ => ?_ | refine cwB0_ ?_)
  | ((with_reducible first | refine AssignN_ ?_ ?_ | refine AssignS_ ?_ ?_ | refine AssignA_ ?_ ?_ | refine AugS_ ?_ ?_ | refine Compare_ ?_ ?_ | refine isCompare_ ?_ ?_ | refine Attr_ ?_ ?_ | refine items_ ?_ ?_); rotate_left; first | rfl | (intros; rfl) | with_unfolding_all rfl)
  | ((with_reducible first | refine Expr_ ?_ ?_ ?_ | refine AssignT_ ?_ ?_ ?_ | refine cwB_ ?_ ?_ ?_ | refine cwT_ ?_ ?_ ?_); rotate_left; rfl; rfl)
  | ((with_reducible refine cw_ (by assumption) (by exact kp_all rfl) ?_ ?_ ?_); rotate_left; rfl; rfl)
  | with_reducible refine cw0_ (by assumption) (by exact kp_all rfl) ?_
  | ((with_reducible show HT _ _ _ (eval (PySem.Expr.Constant (Const.int _) _ _) _) _); refine IntL_ fun _ => ?_)
  | ((with_reducible show HT _ _ _ (eval (PySem.Expr.Call (PySem.Expr.Attribute _ _ _) _ [] _) _) _); refine mcall_ ?_)
  | ((with_reducible show HT _ _ _ (eval (PySem.Expr.Name _ _) _) _); first | refine local_ (by assumption) (by ktr_rel) ?_ | refine global_ (by assumption) (by with_reducible first | exact nm_literal_word _ | exact nm_full_table _ | exact nm_var_table _ | exact nm_low_bit _ | exact nm_cone_nodes_equiv _ | exact nm_cone_inputs _ | exact nm_cone_words _ | exact nm_table_difference _ | exact nm_pattern_count _ | exact nm_parting _ | exact nm_next_candidate _ | exact nm_equal_literal _ | exact nm_settle_node _ | exact nm_law_pick _ | exact nm_law_column _ | exact nm_law_settled _ | exact nm_Aig _ | exact nm_Signatures _ | exact nm_TABLE_INPUTS _) ?_ | with_reducible first | refine bi_len (by assumption) ?_ (by with_unfolding_all rfl) | refine bi_range (by assumption) ?_ (by with_unfolding_all rfl) | refine bi_max (by assumption) ?_ (by with_unfolding_all rfl) | refine bi_min (by assumption) ?_ (by with_unfolding_all rfl) | refine bi_sorted (by assumption) ?_ (by with_unfolding_all rfl) | refine bi_list (by assumption) ?_ (by with_unfolding_all rfl) | refine bi_int (by assumption) ?_ (by with_unfolding_all rfl))
  | ((with_reducible show HT _ _ _ (loadName _ _) _); refine load_ (by assumption) (by ktr_rel) ?_)
  | ((with_reducible show HT _ _ _ (storeName _ _ _) _); refine store_ (by assumption) (by tb_rel) ?_)
  | ((with_reducible show HT _ _ _ (eval (PySem.Expr.Dict [] [] _) _) _); refine newDict_ (by assumption) fun _ _ _ _ => ?_)
  | ((with_reducible show HT _ _ _ (newList _) _); refine newList_ (fun _ _ => ?_) (by simp [sizeLine]))
  | ((with_reducible show HT _ _ _ (newTuple _) _); refine newTuple_ (fun _ _ => ?_) (by simp [sizeLine]))
  | ((with_reducible refine isPlain_ ?_ ?_); rotate_left; rfl)))
-- W2
section
variable {F : Fx} {vs : List (Option Value)} {D D' R : Led}
variable {Q : Value → List (Option Value) → Led → Prop}
/-- the word of a literal -/
noncomputable def lit (w l m : Nat) : Nat := if l &&& 1 = 1 then w ^^^ m else w
theorem w_literal_word (ok : F.Ok) (hlv : F.lv < 40) {o : Value} {w l m : Nat} {t1 t2 : Tok} (ht : Tb F.w D o (l >>> 1) w)
    (h : ∀ t, Q (VN (lit w l m) t) vs D) : HT F vs D (call (.ref 127) [o, VN l t1, VN m t2]) Q := by
  refine callP_ ok k_literal_word (ps := [Str.ofString "words", Str.ofString "literal", Str.ofString "mask"]) (ls := []) rfl rfl rfl hlv ?_
  intro g L ok'
  show HT _ [some _, some _, some _] _ _ _
  refine execs_cons_ ?_
  repeat ktr_units
  refine bite (fun e => ?_) fun e => ?_
  · have e := of_decide_eq_true e
    repeat ktr_units
    refine tail_tb (F := F.sub g L F.A d_literal_word 127) ht fun t => ?_
    repeat ktr_units
    have := h
    unfold lit at this
    rw [if_pos e] at this
    exact this _
  · have e := of_decide_eq_false e
    repeat ktr_units
    refine tail_tb (F := F.sub g L F.A d_literal_word 127) ht fun t => ?_
    have := h
    unfold lit at this
    rw [if_neg e] at this
    exact this _
noncomputable def ft (k : Nat) : Nat := 1 <<< (1 <<< k) - 1
theorem w_full_table (ok : F.Ok) (hlv : F.lv < 40) {k : Nat} {t1 : Tok} (hk : k ≤ 6)
    (h : ∀ t, Q (VN (ft k) t) vs D) : HT F vs D (call (.ref 333) [VN k t1]) Q := by
  have h1 : 1 <<< k ≤ 64 := by rw [Nat.shiftLeft_eq, Nat.one_mul]; exact Nat.pow_le_pow_right (n := 2) (by omega) hk
  refine callP_ ok k_full_table (ps := [Str.ofString "k"]) (ls := []) rfl rfl rfl hlv ?_
  intro g L ok'
  show HT _ [some _] _ _ _
  refine execs_cons_ ?_
  repeat ktr_units
  refine shlN_ (by omega) (by omega) fun _ => ?_
  refine shlN_ (by omega) (by omega) fun _ => ?_
  repeat ktr_units
  refine subN_ ?_ h
  rw [Nat.shiftLeft_eq]; have := Nat.two_pow_pos (1 <<< k); omega
noncomputable def vt (i k : Nat) : Nat := ft k ^^^ (ft k / (1 <<< (1 <<< i) + 1))
theorem fdivN_ {a b : Nat} {t u : Tok} (hb : 0 < b) (hb' : b < 1073741824) (h : ∀ t', Q (VN (a / b) t') vs D) : HT F vs D (binaryOp .FloorDiv (VN a t) (VN b u)) Q := fun s hs => by
  refine floordiv_int (by omega) ⟨_, _, hs.tok, ?_⟩ (.inl (PyProof.noPylong_small (by omega)))
  rw [Int.fdiv_eq_ediv_of_nonneg _ (by omega)]
  exact h _
theorem modN_ {a b : Nat} {t u : Tok} (hb : 0 < b) (h : ∀ t', Q (VN (a % b) t') vs D) : HT F vs D (binaryOp .Mod (VN a t) (VN b u)) Q := fun s hs => by
  refine mod_int' (by omega) ⟨_, _, hs.tok, ?_⟩
  rw [Int.fmod_eq_emod_of_nonneg _ (by omega)]
  exact h _
theorem w_var_table (ok : F.Ok) (hlv : F.lv < 39) {i k : Nat} {t1 t2 : Tok} (hi : i ≤ 4) (hk : k ≤ 6)
    (h : ∀ t, Q (VN (vt i k) t) vs D) : HT F vs D (call (.ref 340) [VN i t1, VN k t2]) Q := by
  have h1 : 1 <<< i ≤ 16 := by rw [Nat.shiftLeft_eq, Nat.one_mul]; exact Nat.pow_le_pow_right (n := 2) (by omega) hi
  have h2 : 1 <<< (1 <<< i) ≤ 65536 := by rw [Nat.shiftLeft_eq, Nat.one_mul]; exact Nat.pow_le_pow_right (n := 2) (by omega) h1
  refine callP_ ok k_var_table (ps := [Str.ofString "i", Str.ofString "k"]) (ls := [Str.ofString "full"]) rfl rfl rfl (by omega) ?_
  intro g L ok'
  show HT _ [some _, some _, none] _ _ _
  refine execs_cons_ ?_
  repeat ktr_units
  refine w_full_table ok' (by show F.lv + 1 < 40; omega) hk fun _ => ?_
  repeat ktr_units
  refine shlN_ (by omega) (by omega) fun _ => ?_
  refine shlN_ (by omega) (by omega) fun _ => ?_
  repeat ktr_units
  refine fdivN_ (Nat.succ_pos _) (by omega) fun _ => ?_
  repeat ktr_units
  exact h _
theorem w_mask (ok : F.Ok) (hlv : F.lv < 40) {x dx : Addr} {T n} {va vr vk vv vl : Value} {c : Nat} {t : Tok} (hx : (x, instObj 439 dx) ∈ D) (hd : (dx, dictOf (sigE F.w.params T va (VN c t) vr vk vv vl) n) ∈ D) (hc : c ≤ 1000)
    (h : ∀ t, Q (VN (1 <<< c - 1) t) vs D) : HT F vs D (call (.ref 401) [.ref x]) Q := by
  refine callP_ ok k_Signatures_mask (ps := [Str.ofString "self"]) (ls := []) rfl rfl rfl hlv ?_
  intro g L ok'
  show HT _ [some _] _ _ _
  refine execs_cons_ ?_
  repeat ktr_units
  refine sg_get_count ok' hx hd rfl ?_
  refine shlN_ (by omega) (by omega) fun _ => ?_
  repeat ktr_units
  refine subN_ ?_ h
  rw [Nat.shiftLeft_eq]; have := Nat.two_pow_pos c; omega
/-- the normal form of a word -/
noncomputable def nrm (w c : Nat) : Nat := if w &&& 1 = 1 then w ^^^ (1 <<< c - 1) else w
theorem w_normal (ok : F.Ok) (hlv : F.lv < 39) {x dx l : Addr} {T n} {va vr vk vl : Value} {c : Nat} {t t1 : Tok} {ol : Obj} {ws : List Nat} {node w : Nat} (hx : (x, instObj 439 dx) ∈ D) (hd : (dx, dictOf (sigE F.w.params T va (VN c t) vr vk (.ref l) vl) n) ∈ D) (hl : (l, ol) ∈ D) (hi : IL ol ws) (hw : ws[node]? = some w) (hn : node < 2 ^ 62) (hc : c ≤ 1000)
    (h : ∀ t, Q (VN (nrm w c) t) vs D) : HT F vs D (call (.ref 415) [.ref x, VN node t1]) Q := by
  refine callP_ ok k_Signatures_normal (ps := [Str.ofString "self", Str.ofString "node"]) (ls := [Str.ofString "word"]) rfl rfl rfl (by omega) ?_
  intro g L ok'
  show HT _ [some _, some _, none] _ _ _
  refine execs_cons_ ?_
  repeat ktr_units
  refine sg_get_values ok' hx hd rfl ?_
  repeat ktr_units
  refine tail_il hl hi hw hn fun _ => ?_
  repeat ktr_units
  refine bite (fun e => ?_) fun e => ?_
  · have e := of_decide_eq_true e
    repeat ktr_units
    refine sg_m_mask ok' hx hd ?_
    repeat ktr_units
    refine w_mask ok' (by show F.lv + 1 < 40; omega) hx hd hc fun _ => ?_
    repeat ktr_units
    have := h
    unfold nrm at this
    rw [if_pos e] at this
    exact this _
  · have e := of_decide_eq_false e
    repeat ktr_units
    have := h
    unfold nrm at this
    rw [if_neg e] at this
    exact this _
end
-- W3
section
variable {F : Fx} {vs : List (Option Value)} {D D' R : Led}
variable {Q : Value → List (Option Value) → Led → Prop}
variable {nodes : List (Option (Nat × Nat))} {inputs : List Nat} {A : Ag}
theorem w_is_and (ok : F.Ok) (hlv : F.lv < 40) {k : Nat} {t1 : Tok} {p} (ha : AgIn F.w A D nodes inputs) (hp : nodes[k]? = some p) (h : Q (.bool p.isSome) vs D) : HT F vs D (call (.ref 56) [.ref A.g, VN k t1]) Q := by
  have hk : k < nodes.length := (List.getElem?_eq_some_iff.mp hp).1
  refine callP_ ok k_Aig_is_and (ps := [Str.ofString "self", Str.ofString "node"]) (ls := []) rfl rfl rfl hlv ?_
  intro g L ok'
  show HT _ [some _, some _] _ _ _
  refine execs_cons_ ?_
  repeat ktr_units
  refine ag_get_nodes ok' ha.g ha.d rfl ?_
  repeat ktr_units
  refine tail_nl ha.n ha.N hp (by have := ha.sz; omega) fun v hv => ?_
  repeat ktr_units
  cases p with
  | none => cases hv; exact h
  | some p => obtain ⟨b, t, u, rfl, hb⟩ := hv; exact h
/-- the and of two literals' words -/
noncomputable def andw (ws : List Nat) (m l r : Nat) : Nat := lit (ws.getD (l >>> 1) 0) l m &&& lit (ws.getD (r >>> 1) 0) r m
theorem getD_some {ws : List Nat} {k : Nat} (h : k < ws.length) : ws[k]? = some (ws.getD k 0) := by
  simp [List.getD_eq_getElem?_getD, List.getElem?_eq_getElem h]
theorem w_follow (ok : F.Ok) (hlv : F.lv < 38) {x : Addr} {S : Sg} {P : Sd} {k l r : Nat} {t1 : Tok} (ha : AgOk A R nodes inputs) (hS : S.Is F.w P) (hp : nodes[k]? = some (some (l, r))) (hl : l >>> 1 < P.vals.length) (hr : r >>> 1 < P.vals.length) (hv : P.vals.length < 1000)
    (h : ∀ S' : Sg, S'.Is F.w { P with vals := P.vals ++ [andw P.vals (1 <<< P.c - 1) l r] } → Q .none vs (S'.led F.w A x R)) : HT F vs (S.led F.w A x R) (call (.ref 422) [.ref x, VN k t1]) Q := by
  have hk : k < nodes.length := (List.getElem?_eq_some_iff.mp hp).1
  have hz := ha.sz
  have hc := hS.c
  have hc' := hS.hc
  have hi := ha.in (w := F.w) (x := x) (S := S)
  refine callP_ ok k_Signatures_follow (ps := [Str.ofString "self", Str.ofString "node"]) (ls := [Str.ofString "left", Str.ofString "right", Str.ofString "word"]) rfl rfl rfl (by omega) ?_
  intro g L ok'
  show HT _ [some _, some _, none, none, none] ((_, _) :: _) _ _
  refine execs_cons_ ?_
  repeat ktr_units
  refine sg_get_aig ok' (by k_mem) (by k_mem) rfl ?_
  refine ag_get_nodes ok' (by k_mem) (by k_mem) rfl ?_
  repeat ktr_units
  refine tail_nl (by k_mem) ha.N hp (by omega) fun v hv => ?_
  obtain ⟨b, t, u, rfl, hb⟩ := hv
  refine unpack2_ ok' (by k_mem) (by tb_rel) (by tb_rel) ?_
  repeat ktr_units
  refine sg_get_values ok' (by k_mem) (by k_mem) rfl ?_
  repeat ktr_units
  refine sg_m_mask ok' (by k_mem) (by k_mem) ?_
  repeat ktr_units
  refine w_mask ok' (by show F.lv + 1 < 40; omega) (by k_mem) (by k_mem) (by omega) fun _ => ?_
  repeat ktr_units
  refine w_literal_word ok' (by show F.lv + 1 < 40; omega) (.inl ⟨_, _, _, rfl, by k_mem, hS.V, getD_some hl, by omega⟩) fun _ => ?_
  repeat ktr_units
  refine sg_get_values ok' (by k_mem) (by k_mem) rfl ?_
  refine appendIL_m (by k_mem) hS.V ?_
  repeat ktr_units
  refine sg_get_values ok' (by k_mem) (by k_mem) rfl ?_
  repeat ktr_units
  refine sg_m_mask ok' (by k_mem) (by k_mem) ?_
  repeat ktr_units
  refine w_mask ok' (by show F.lv + 1 < 40; omega) (by k_mem) (by k_mem) (by omega) fun _ => ?_
  repeat ktr_units
  refine w_literal_word ok' (by show F.lv + 1 < 40; omega) (.inl ⟨_, _, _, rfl, by k_mem, hS.V, getD_some hr, by omega⟩) fun _ => ?_
  repeat ktr_units
  refine append_il (by tb_start) hS.V (by simp only [sizeLine]; omega) fun o' ho => ?_
  refine ⟨by simp, ?_⟩
  repeat ktr_units
  rw [hc] at ho
  exact h { S with oV := o' } ⟨hS.R, hS.K, ho, hS.C, hS.c, hS.hc, hS.lr, hS.lk, by simp; omega, hS.lg, hS.lc⟩
theorem lc_addg {gs : List (Nat × List Nat)} {kept : List Nat} {j x : Nat} (h : ∀ (k : Nat) (ws : List Nat), clsOf gs k = some ws → ws.length ≤ kept.length) : ∀ (k : Nat) (ws : List Nat), clsOf (addg gs j x) k = some ws → ws.length ≤ (kept ++ [x]).length := by
  intro k ws hw
  rw [clsOf_addg] at hw
  split at hw
  · cases hw
    cases hc : clsOf gs j with
    | none => simp
    | some l => have := h _ _ hc; simp; omega
  · have := h _ _ hw
    simp; omega
theorem w_keep (ok : F.Ok) (hlv : F.lv < 38) {x : Addr} {S : Sg} {P : Sd} {k : Nat} {t1 : Tok} (hS : S.Is F.w P) (hk : k < P.vals.length) (hkl : P.kept.length < 1000) (hgl : P.gs.length < 1000)
    (h : ∀ S' : Sg, S'.Is F.w { P with kept := P.kept ++ [k], gs := addg P.gs (nrm (P.vals.getD k 0) P.c) k } → Q .none vs (S'.led F.w A x R)) : HT F vs (S.led F.w A x R) (call (.ref 429) [.ref x, VN k t1]) Q := by
  have hc := hS.c
  have hc' := hS.hc
  have hlv' := hS.lv
  refine callP_ ok k_Signatures_keep (ps := [Str.ofString "self", Str.ofString "node"]) (ls := []) rfl rfl rfl (by omega) ?_
  intro g L ok'
  show HT _ [some _, some _] ((_, _) :: _) _ _
  refine execs_cons_ ?_
  repeat ktr_units
  refine sg_get_kept ok' (by k_mem) (by k_mem) rfl ?_
  refine appendIL_m (by k_mem) hS.K ?_
  repeat ktr_units
  refine append_il (by tb_start) hS.K (by simp only [sizeLine]; omega) fun oK hK => ?_
  refine ⟨by simp, ?_⟩
  repeat ktr_units
  refine sg_get_classes ok' (by k_mem) (by k_mem) rfl ?_
  obtain ⟨js, hd, hC, hj⟩ := hS.C
  refine dsetdef_m (by k_mem) hd ?_
  repeat ktr_units
  refine sg_m_normal ok' (by k_mem) (by k_mem) ?_
  repeat ktr_units
  refine w_normal ok' (by show F.lv + 1 < 39; omega) (by k_mem) (by k_mem) (by k_mem) hS.V (getD_some hk) (by omega) (by omega) fun _ => ?_
  repeat ktr_units
  refine cls_setdef (F := F.sub g L F.A d_Signatures_keep 429) (pre := [_, _, _, _, _, _, _, _, _]) ok' hS.C (by omega) ⟨[], 0, rfl, .nil⟩ (x := k) fun b o ws D1 f hz hi hw hf => ?_
  refine appendIL_m hz.mem hi ?_
  repeat ktr_units
  refine append_il hz hi ?_ fun o' ho' => ?_
  · rcases hw with hw | rfl
    · have := hS.lc _ _ hw
      have := hS.lk
      simp only [sizeLine]; omega
    · simp
  refine ⟨by simp, ?_⟩
  obtain ⟨oC', C', e, hC'⟩ := hf o' ho'
  rw [e]
  repeat ktr_units
  rw [hc] at hC'
  exact h { S with oK := oK, oC := oC', C := C' } ⟨hS.R, hK, hS.V, hC', hS.c, hS.hc, hS.lr, by simp; omega, hS.lv, Nat.le_trans (addg_len _ _ _) hgl, lc_addg hS.lc⟩
end
-- W4
section
variable {F : Fx} {vs : List (Option Value)} {D D' R : Led}
variable {Q : Value → List (Option Value) → Led → Prop}
variable {nodes : List (Option (Nat × Nat))} {inputs : List Nat} {A : Ag}
noncomputable def vi (inputs words : List Nat) (m : Nat) : Nat → List Nat → List Nat
  | 0, f => f
  | k + 1, f => (vi inputs words m k f).set (inputs.getD k 0) (words.getD k 0 &&& m)
noncomputable def vn (nodes : List (Option (Nat × Nat))) (m : Nat) : Nat → List Nat → List Nat
  | 0, f => f
  | k + 1, f => match nodes.getD k none with
    | none => vn nodes m k f
    | some (l, r) => (vn nodes m k f).set k (andw (vn nodes m k f) m l r)
noncomputable def valw (nodes : List (Option (Nat × Nat))) (inputs words : List Nat) (m : Nat) : List Nat := vn nodes m nodes.length (vi inputs words m inputs.length (List.replicate nodes.length 0))
theorem vi_len (inputs words : List Nat) (m k : Nat) (f : List Nat) : (vi inputs words m k f).length = f.length := by
  induction k with
  | zero => rfl
  | succ k ih => simp [vi, ih]
theorem vn_len (nodes : List (Option (Nat × Nat))) (m k : Nat) (f : List Nat) : (vn nodes m k f).length = f.length := by
  induction k with
  | zero => rfl
  | succ k ih => simp only [vn]; split <;> simp [ih]
theorem valw_len (nodes : List (Option (Nat × Nat))) (inputs words : List Nat) (m : Nat) : (valw nodes inputs words m).length = nodes.length := by
  simp [valw, vn_len, vi_len]
theorem getDn {nodes : List (Option (Nat × Nat))} {k : Nat} (h : k < nodes.length) : nodes[k]? = some (nodes.getD k none) := by
  simp [List.getD_eq_getElem?_getD, List.getElem?_eq_getElem h]
theorem w_value (ok : F.Ok) (hlv : F.lv < 38) {lw : Addr} {ow : Obj} {words : List Nat} {m : Nat} {t1 : Tok} (ha : AgIn F.w A D nodes inputs) (hw : (lw, ow) ∈ D) (hi2 : IL ow words) (hl : inputs.length ≤ words.length)
    (h : ∀ a o, IL o (valw nodes inputs words m) → Q (.ref a) vs ((a, o) :: D)) : HT F vs D (call (.ref 113) [.ref A.g, .ref lw, VN m t1]) Q := by
  have hz := ha.sz
  have hsi := ha.si
  have hg := ha.g
  have hd := ha.d
  have hN := ha.n
  have hI := ha.i
  refine callPB_ ok k_Aig_value (ps := [Str.ofString "self", Str.ofString "words", Str.ofString "mask"]) (ls := [Str.ofString "found", Str.ofString "i", Str.ofString "node", Str.ofString "pair", Str.ofString "left"]) (fun S => by kernel_rfl) rfl rfl (by omega) ?_
  intro g L ok'
  show HT _ [some _, some _, some _, none, none, none, none, none] _ _ _
  refine execs_cons_ ?_
  repeat ktr_units
  refine ag_get_nodes ok' (by k_mem) (by k_mem) rfl ?_
  repeat ktr_units
  refine len_nl (by k_mem) ha.N (by omega) fun _ => ?_
  refine mulList_ (n := 0) (by k_mem) (by omega) fun fa of hf hn => ?_
  repeat ktr_units
  refine HT.le (D' := (fa, of) :: D) ?_ (Le.of_sub (by simp))
  refine forR_ ok' (n := inputs.length) (j := 4) rfl (by omega) (fun i vs' D' => ∃ u4 u5 u6 u7 o, vs' = [some (.ref A.g), some (.ref lw), some (VN m t1), some (.ref fa), u4, u5, u6, u7] ∧ D' = (fa, o) :: D ∧ IL o (vi inputs words m i (List.replicate nodes.length 0))) ?_ ?_ ?_
  · repeat ktr_units
    refine ag_get_inputs ok' (by k_mem) (by k_mem) rfl ?_
    repeat ktr_units
    refine len_il (by k_mem) ha.I (by omega) fun _ => ?_
    repeat ktr_units
    refine range1_ fun r t1 t2 hr => ?_
    exact ⟨_, _, _, _, _, rfl, rfl, _, _, _, _, of, rfl, rfl, hf⟩
  · rintro i t _ _ E hi ⟨u4, u5, u6, u7, o, rfl, rfl, ho⟩
    show HT _ [_, _, _, _, _, _, _, _] ((_, _) :: (D ++ E)) _ _
    refine execs_cons_ ?_
    have hw' := getD_some (Nat.lt_of_lt_of_le hi hl)
    have hi' := getD_some hi
    have hlt := ha.wi _ _ hi'
    repeat ktr_units
    refine tail_il (by k_mem) hi2 hw' (by omega) fun _ => ?_
    repeat ktr_units
    refine ag_get_inputs ok' (by k_mem) (by k_mem) rfl ?_
    repeat ktr_units
    refine tail_il (by k_mem) ha.I hi' (by omega) fun _ => ?_
    refine setItem_il (by tb_start) ho (by rw [vi_len]; simpa using hlt) (by omega) fun o' ho' => ?_
    repeat ktr_units
    exact ⟨_, rfl, _, _, _, _, o', rfl, rfl, ho'⟩
  · rintro _ _ ⟨u4, u5, u6, u7, o, rfl, rfl, ho⟩
    repeat ktr_units
    refine forR_ ok' (n := nodes.length) (j := 5) rfl (by omega) (fun i vs' D' => ∃ u4 u5 u6 u7 o, vs' = [some (.ref A.g), some (.ref lw), some (VN m t1), some (.ref fa), u4, u5, u6, u7] ∧ D' = (fa, o) :: D ∧ IL o (vn nodes m i (vi inputs words m inputs.length (List.replicate nodes.length 0)))) ?_ ?_ ?_
    · repeat ktr_units
      refine ag_get_nodes ok' (by k_mem) (by k_mem) rfl ?_
      repeat ktr_units
      refine len_nl (by k_mem) ha.N (by omega) fun _ => ?_
      repeat ktr_units
      refine range1_ fun r t1 t2 hr => ?_
      exact ⟨_, _, _, _, _, rfl, rfl, _, _, _, _, o, rfl, rfl, ho⟩
    · rintro i t _ _ E hi ⟨u4, u5, u6, u7, o, rfl, rfl, ho⟩
      show HT _ [_, _, _, _, _, _, _, _] ((_, _) :: (D ++ E)) _ _
      refine execs_cons_ ?_
      have hp := getDn hi
      repeat ktr_units
      refine ag_get_nodes ok' (by k_mem) (by k_mem) rfl ?_
      repeat ktr_units
      refine tail_nl (by k_mem) ha.N hp (by omega) fun v hv => ?_
      repeat ktr_units
      generalize hpe : nodes.getD i none = p at hp hv
      cases p with
      | none =>
        cases hv
        refine bite (fun e => by cases e) fun _ => ?_
        repeat ktr_units
        exact ⟨_, rfl, _, _, _, _, o, rfl, rfl, by simp only [vn, hpe]; exact ho⟩
      | some p =>
        obtain ⟨b, t, u, rfl, hb⟩ := hv
        obtain ⟨hwl, hwr⟩ := ha.wf _ _ _ hp
        have hlen : (vn nodes m i (vi inputs words m inputs.length (List.replicate nodes.length 0))).length = nodes.length := by simp [vn_len, vi_len]
        refine bite (fun _ => ?_) fun e => by cases e
        repeat ktr_units
        refine tail_tup_ (j := 0) (by k_mem) rfl (by decide) rfl ?_
        repeat ktr_units
        refine w_literal_word ok' (by show F.lv + 1 < 40; omega) (.inl ⟨_, _, _, rfl, by k_mem, ho, getD_some (by omega), by omega⟩) fun _ => ?_
        repeat ktr_units
        refine tail_tup_ (j := 1) (by k_mem) rfl (by decide) rfl ?_
        repeat ktr_units
        refine w_literal_word ok' (by show F.lv + 1 < 40; omega) (.inl ⟨_, _, _, rfl, by k_mem, ho, getD_some (by omega), by omega⟩) fun _ => ?_
        repeat ktr_units
        refine setItem_il (by tb_start) ho (by omega) (by omega) fun o' ho' => ?_
        repeat ktr_units
        exact ⟨_, rfl, _, _, _, _, o', rfl, rfl, by simp only [vn, hpe]; exact ho'⟩
    · rintro _ _ ⟨u4, u5, u6, u7, o, rfl, rfl, ho⟩
      repeat ktr_units
      exact h _ _ ho
end
-- W5
section
variable {F : Fx} {vs : List (Option Value)} {D D' R : Led}
variable {Q : Value → List (Option Value) → Led → Prop}
variable {nodes : List (Option (Nat × Nat))} {inputs : List Nat} {A : Ag}
/-- the classes of a list of kept nodes -/
noncomputable def clsw (vals : List Nat) (c : Nat) (kept : List Nat) : List (Nat × List Nat) := kept.foldl (fun gs k => addg gs (nrm (vals.getD k 0) c) k) []
theorem clsw_snoc (vals : List Nat) (c : Nat) (kept : List Nat) (k : Nat) : clsw vals c (kept ++ [k]) = addg (clsw vals c kept) (nrm (vals.getD k 0) c) k := by
  simp [clsw]
theorem clsw_len (vals : List Nat) (c : Nat) (kept : List Nat) : (clsw vals c kept).length ≤ kept.length := by
  rw [← kept.reverse_reverse]
  induction kept.reverse with
  | nil => simp [clsw]
  | cons k l ih =>
    rw [List.reverse_cons, clsw_snoc, List.length_append]
    exact Nat.le_trans (addg_len _ _ _) (Nat.succ_le_succ ih)
theorem clsw_lc (vals : List Nat) (c : Nat) (kept : List Nat) : ∀ (k : Nat) (ws : List Nat), clsOf (clsw vals c kept) k = some ws → ws.length ≤ kept.length := by
  rw [← kept.reverse_reverse]
  induction kept.reverse with
  | nil => simp [clsw, clsOf]
  | cons k l ih => rw [List.reverse_cons, clsw_snoc]; exact lc_addg ih
noncomputable def Sd.fresh (nodes : List (Option (Nat × Nat))) (inputs : List Nat) (P : Sd) : Sd :=
  { P with vals := valw nodes inputs P.rows (1 <<< P.c - 1), gs := clsw (valw nodes inputs P.rows (1 <<< P.c - 1)) P.c P.kept }
theorem w_refresh (ok : F.Ok) (hlv : F.lv < 36) {x : Addr} {S : Sg} {P : Sd} (ha : AgOk A R nodes inputs) (hR : IL S.oR P.rows) (hK : IL S.oK P.kept) (hc : S.c = P.c) (hc' : P.c ≤ 1000) (hrl : inputs.length = P.rows.length) (hkl : P.kept.length ≤ 1000) (hk : ∀ k ∈ P.kept, k < nodes.length)
    (h : ∀ S' : Sg, S'.Is F.w (P.fresh nodes inputs) → Q .none vs (S'.led F.w A x R)) : HT F vs (S.led F.w A x R) (call (.ref 408) [.ref x]) Q := by
  have hz := ha.sz
  have hsi := ha.si
  have hvl := valw_len nodes inputs P.rows (1 <<< P.c - 1)
  refine callP_ ok k_Signatures_refresh (ps := [Str.ofString "self"]) (ls := [Str.ofString "node"]) rfl rfl rfl (by omega) ?_
  intro g L ok'
  show HT _ [some _, none] ((_, _) :: _) _ _
  refine execs_cons_ ?_
  repeat ktr_units
  refine sg_get_aig ok' (by k_mem) (by k_mem) rfl ?_
  refine ag_m_value ok' (by k_mem) (by k_mem) ?_
  repeat ktr_units
  refine sg_get_rows ok' (by k_mem) (by k_mem) rfl ?_
  repeat ktr_units
  refine sg_m_mask ok' (by k_mem) (by k_mem) ?_
  repeat ktr_units
  refine w_mask ok' (by show F.lv + 1 < 40; omega) (by k_mem) (by k_mem) (by omega) fun _ => ?_
  repeat ktr_units
  refine w_value (F := F.sub g L F.A d_Signatures_refresh 408) (words := P.rows) ok' (by show F.lv + 1 < 38; omega) ha.in (by k_mem) hR (by omega) fun va ov hv => ?_
  repeat ktr_units
  refine sg_set_values ok' (by k_mem) (Zip.up (by tb_start) _) ?_
  refine HT.le (D' := Sg.led F.w A x { S with vl := va, oV := ov } R) ?_ (Le.move (l₁ := [_, _, _, _, _, _, _, _]) (List.sublist_cons_self _ _))
  repeat ktr_units
  refine sg_set_classes ok' (by k_mem) (Zip.up (by tb_start) _) ?_
  rename_i cd oC0 hcn hC0
  refine HT.le (D' := Sg.led F.w A x { S with vl := va, oV := ov, cl := cd, oC := oC0, C := [] } R) ?_ (Le.move (l₁ := [_, _, _, _, _, _, _, _, _]) ((List.sublist_append_right _ _).cons _))
  repeat ktr_units
  refine forIL_ ok' (l := S.kl) (o := S.oK) (ws := P.kept) (j := 1) rfl hK (fun i vs' D' => ∃ u1 oC C, vs' = [some (.ref x), u1] ∧ D' = Sg.led F.w A x { S with vl := va, oV := ov, cl := cd, oC := oC, C := C } R ∧ Cls F.w oC C (clsw (valw nodes inputs P.rows (1 <<< P.c - 1)) P.c (P.kept.take i))) ?_ ?_ ?_ ?_
  · repeat ktr_units
    refine sg_get_kept ok' (by k_mem) (by k_mem) rfl ?_
    exact ⟨rfl, _, oC0, [], rfl, rfl, [], hC0, rfl, .nil⟩
  · rintro i _ _ ⟨u1, oC, C, rfl, rfl, _⟩
    k_mem
  · rintro i n t _ _ E hin ⟨u1, oC, C, rfl, rfl, hCl⟩
    have hil : i < P.kept.length := (List.getElem?_eq_some_iff.mp hin).1
    have hnl : n < nodes.length := hk n (List.mem_of_getElem? hin)
    have hgl := clsw_len (valw nodes inputs P.rows (1 <<< P.c - 1)) P.c (P.kept.take i)
    have hlc := clsw_lc (valw nodes inputs P.rows (1 <<< P.c - 1)) P.c (P.kept.take i)
    rw [List.length_take] at hgl hlc
    show HT _ [_, _] ((_, _) :: (_, _) :: (_, _) :: (_, _) :: (_, _) :: (_, _) :: (_, _) :: (_, _) :: (_, _) :: (_, _) :: ((C ++ R) ++ E)) _ _
    rw [List.append_assoc]
    refine execs_cons_ ?_
    repeat ktr_units
    refine sg_get_classes ok' (by k_mem) (by k_mem) rfl ?_
    obtain ⟨js, hd, hC, hj⟩ := id hCl
    refine dsetdef_m (by k_mem) hd ?_
    repeat ktr_units
    refine sg_m_normal ok' (by k_mem) (by k_mem) ?_
    repeat ktr_units
    refine w_normal ok' (by show F.lv + 1 < 39; omega) (by k_mem) (by k_mem) (by k_mem) hv (getD_some (by rw [valw_len]; omega)) (by omega) (by show S.c ≤ 1000; omega) fun _ => ?_
    repeat ktr_units
    refine cls_setdef (F := F.sub g L F.A d_Signatures_refresh 408) (pre := [_, _, _, _, _, _, _, _, _]) ok' hCl (by omega) ⟨[], 0, rfl, .nil⟩ (x := n) fun b o ws D1 f hz hi hw hf => ?_
    refine appendIL_m hz.mem hi ?_
    repeat ktr_units
    refine append_il hz hi ?_ fun o' ho' => ?_
    · rcases hw with hw | rfl
      · have := hlc _ _ hw
        simp only [sizeLine]; omega
      · simp
    refine ⟨by simp, ?_⟩
    obtain ⟨oC', C', e, hC'⟩ := hf o' ho'
    rw [e]
    repeat ktr_units
    refine ⟨Sg.led F.w A x { S with vl := va, oV := ov, cl := cd, oC := oC', C := C' } R, by simp [Sg.led], _, oC', C', rfl, rfl, ?_⟩
    rw [List.take_add_one, hin]
    rw [hc] at hC'
    simp only [Option.toList_some]
    rw [clsw_snoc]
    exact hC'
  · rintro _ _ ⟨u1, oC, C, rfl, rfl, hCl⟩
    repeat ktr_units
    rw [List.take_length] at hCl
    rw [hc] at hv
    exact h { S with vl := va, oV := ov, cl := cd, oC := oC, C := C } ⟨hR, hK, hv, hCl, hc, hc', by show P.rows.length ≤ 1000; omega, hkl, by show (valw nodes inputs P.rows (1 <<< P.c - 1)).length ≤ 1000; omega, Nat.le_trans (clsw_len _ _ _) hkl, clsw_lc _ _ _⟩
end
-- W6
section
variable {F : Fx} {vs : List (Option Value)} {D D' R : Led}
variable {Q : Value → List (Option Value) → Led → Prop}
variable {nodes : List (Option (Nat × Nat))} {inputs : List Nat} {A : Ag}
/-- a dict of bits -/
noncomputable def BD (kvs : List (Int × Value)) (bs : Nat → Nat) : Prop := ∀ k : Nat, bs k ≤ 1 ∧ ((valueAt kvs (k : Int) = none ∧ bs k = 0) ∨ ∃ t, valueAt kvs (k : Int) = some (VN (bs k) t))
noncomputable def rowsw (inputs : List Nat) (bs : Nat → Nat) (c : Nat) : Nat → List Nat → List Nat
  | 0, f => f
  | k + 1, f => (rowsw inputs bs c k f).set k ((rowsw inputs bs c k f).getD k 0 ||| bs (inputs.getD k 0) <<< c)
theorem rowsw_len (inputs : List Nat) (bs : Nat → Nat) (c k : Nat) (f : List Nat) : (rowsw inputs bs c k f).length = f.length := by
  induction k with
  | zero => rfl
  | succ k ih => simp [rowsw, ih]
noncomputable def Sd.more (nodes : List (Option (Nat × Nat))) (inputs : List Nat) (bs : Nat → Nat) (P : Sd) : Sd :=
  Sd.fresh nodes inputs { P with rows := rowsw inputs bs P.c P.rows.length P.rows, c := P.c + 1 }
theorem w_add_pattern (ok : F.Ok) (hlv : F.lv < 35) {x : Addr} {S : Sg} {P : Sd} {db : Addr} {ob : Obj} {kvs} {bs : Nat → Nat} (ha : AgOk A R nodes inputs) (hS : S.Is F.w P) (hb : (db, ob) ∈ R) (hd : DI F.w ob kvs) (hbd : BD kvs bs) (hc' : P.c < 1000) (hrl : inputs.length = P.rows.length) (hk : ∀ k ∈ P.kept, k < nodes.length)
    (h : ∀ S' : Sg, S'.Is F.w (P.more nodes inputs bs) → Q .none vs (S'.led F.w A x R)) : HT F vs (S.led F.w A x R) (call (.ref 436) [.ref x, .ref db]) Q := by
  have hz := ha.sz
  have hsi := ha.si
  have hc := hS.c
  have hlr := hS.lr
  refine callP_ ok k_Signatures_add_pattern (ps := [Str.ofString "self", Str.ofString "bits"]) (ls := [Str.ofString "place", Str.ofString "bit"]) rfl rfl rfl (by omega) ?_
  intro g L ok'
  show HT _ [some _, some _, none, none] ((_, _) :: _) _ _
  refine execs_cons_ ?_
  refine forR_ ok' (n := P.rows.length) (j := 2) rfl (by omega) (fun i vs' D' => ∃ u2 u3 oR, vs' = [some (.ref x), some (.ref db), u2, u3] ∧ D' = Sg.led F.w A x { S with oR := oR } R ∧ IL oR (rowsw inputs bs P.c i P.rows)) ?_ ?_ ?_
  · repeat ktr_units
    refine sg_get_rows ok' (by k_mem) (by k_mem) rfl ?_
    repeat ktr_units
    refine len_il (by k_mem) hS.R (by omega) fun _ => ?_
    repeat ktr_units
    refine range1_ fun r t1 t2 hr => ?_
    exact ⟨_, _, _, _, _, rfl, rfl, _, _, S.oR, rfl, rfl, hS.R⟩
  · rintro i t _ _ E hi ⟨u2, u3, oR, rfl, rfl, ho⟩
    have hin := getD_some (ws := inputs) (k := i) (by omega)
    have hlen := rowsw_len inputs bs P.c i P.rows
    show HT _ [_, _, _, _] ((_, _) :: (_, _) :: (_, _) :: (_, _) :: (_, _) :: (_, _) :: (_, _) :: (_, _) :: (_, _) :: (_, _) :: ((S.C ++ R) ++ E)) _ _
    refine execs_cons_ ?_
    repeat ktr_units
    refine dget_m (by k_mem) hd ?_
    repeat ktr_units
    refine sg_get_aig ok' (by k_mem) (by k_mem) rfl ?_
    refine ag_get_inputs ok' (by k_mem) (by k_mem) rfl ?_
    repeat ktr_units
    refine tail_il (by k_mem) ha.I hin (by omega) fun _ => ?_
    repeat ktr_units
    obtain ⟨hb1, hb2⟩ := hbd (inputs.getD i 0)
    have hbv : ∀ z : Tok, ∃ t, (valueAt kvs ((inputs.getD i 0 : Nat) : Int)).getD (VN 0 z) = VN (bs (inputs.getD i 0)) t := fun z => by
      rcases hb2 with ⟨e1, e2⟩ | ⟨t, e⟩
      · rw [e1, e2]; exact ⟨z, rfl⟩
      · rw [e]; exact ⟨t, rfl⟩
    refine dget2_ (F := F.sub g L F.A d_Signatures_add_pattern 436) ok' (by k_mem) hd ?_
    rename_i z0
    obtain ⟨tb, e⟩ := hbv z0
    simp only [e]
    repeat ktr_units
    refine sg_get_rows ok' (by k_mem) (by k_mem) rfl ?_
    repeat ktr_units
    refine item_il (by k_mem) ho (getD_some (by omega)) (by omega) fun _ => ?_
    repeat ktr_units
    refine sg_get_count ok' (by k_mem) (by k_mem) rfl ?_
    refine shlN_ (by show S.c ≤ 1000; omega) (by omega) fun _ => ?_
    repeat ktr_units
    refine setItem_il (by tb_start) ho (by omega) (by omega) fun o' ho' => ?_
    repeat ktr_units
    refine ⟨Sg.led F.w A x { S with oR := o' } R, rfl, _, _, o', rfl, rfl, ?_⟩
    rw [hc] at ho'
    exact ho'
  · rintro _ _ ⟨u2, u3, oR, rfl, rfl, ho⟩
    repeat ktr_units
    refine sg_get_count ok' (by k_mem) (by k_mem) rfl ?_
    repeat ktr_units
    refine sg_set_count ok' (by k_mem) (Zip.up (by tb_start) _) ?_
    repeat ktr_units
    refine sg_m_refresh ok' (by k_mem) (by k_mem) ?_
    repeat ktr_units
    rename_i t1 t2 
    refine w_refresh (F := F.sub g L F.A d_Signatures_add_pattern 436) (S := { S with oR := oR, c := S.c + 1, tc := t2 }) (P := { P with rows := rowsw inputs bs P.c P.rows.length P.rows, c := P.c + 1 }) ok' (by show F.lv + 1 < 36; omega) ha ho hS.K (by show S.c + 1 = P.c + 1; omega) (by show P.c + 1 ≤ 1000; omega) (by show _ = (rowsw inputs bs P.c P.rows.length P.rows).length; rw [rowsw_len]; exact hrl) hS.lk hk fun S' hS' => ?_
    refine ⟨by simp, ?_⟩
    repeat ktr_units
    exact h S' hS'
end
-- W7
section
variable {F : Fx} {vs : List (Option Value)} {D D' R : Led}
variable {Q : Value → List (Option Value) → Led → Prop}
variable {nodes : List (Option (Nat × Nat))} {inputs : List Nat} {A : Ag}
noncomputable def pc (words : List Nat) : Nat := words.foldl (fun c w => max c (bl w)) 1
theorem w_pattern_count (ok : F.Ok) (hlv : F.lv < 40) {l : Addr} {o : Obj} {words : List Nat} (hm : (l, o) ∈ D) (hi : IL o words)
    (h : ∀ t, Q (VN (pc words) t) vs D) : HT F vs D (call (.ref 380) [.ref l]) Q := by
  refine callP_ ok k_pattern_count (ps := [Str.ofString "words"]) (ls := [Str.ofString "count", Str.ofString "word"]) rfl rfl rfl (by omega) ?_
  intro g L ok'
  show HT _ [some _, none, none] _ _ _
  refine execs_cons_ ?_
  repeat ktr_units
  refine forIL_ ok' (l := l) (o := o) (j := 2) rfl hi (fun i vs' D' => ∃ t u, vs' = [some (.ref l), some (VN ((words.take i).foldl (fun c w => max c (bl w)) 1) t), u] ∧ D' = D) ?_ ?_ ?_ ?_
  · repeat ktr_units
    exact ⟨rfl, _, _, rfl, rfl⟩
  · rintro i _ _ ⟨t, u, rfl, rfl⟩
    exact hm
  · rintro i n t _ _ E hin ⟨u1, u2, rfl, rfl⟩
    show HT _ [_, _, _] _ _ _
    refine execs_cons_ ?_
    repeat ktr_units
    refine bitM_ ?_
    repeat ktr_units
    refine bitN_ fun _ => ?_
    repeat ktr_units
    refine max2_ (F := F.sub g L F.A d_pattern_count 380) ok' fun _ => ?_
    repeat ktr_units
    have e : (words.take (i + 1)).foldl (fun c w => max c (bl w)) 1 = max ((words.take i).foldl (fun c w => max c (bl w)) 1) (bl n) := by
      rw [List.take_add_one, hin]
      simp only [Option.toList_some, List.foldl_append, List.foldl_cons, List.foldl_nil]
    refine ⟨_, rfl, ?_⟩
    rw [e]
    exact ⟨_, _, rfl, rfl⟩
  · rintro _ _ ⟨u1, u2, rfl, rfl⟩
    rw [List.take_length]
    repeat ktr_units
    exact h _
theorem w_low_bit (ok : F.Ok) (hlv : F.lv < 40) {n p : Nat} {t1 : Tok} (hp : n.testBit p = true) (h : ∀ t q, n.testBit q = true → Q (VN q t) vs D) : HT F vs D (call (.ref 347) [VN n t1]) Q := by
  refine callP_ ok k_low_bit (ps := [Str.ofString "n"]) (ls := [Str.ofString "place"]) rfl rfl rfl (by omega) ?_
  intro g L ok'
  show HT _ [some _, none] _ _ _
  refine execs_cons_ ?_
  repeat ktr_units
  refine While_ (fun k vs' D' => ∃ q t, vs' = [some (VN n t1), some (VN q t)] ∧ D' = D ∧ q ≤ p ∧ k = p - q) ?_ p ⟨0, _, rfl, rfl, by omega, by omega⟩
  rintro k _ _ ⟨q, t, rfl, rfl, hq, rfl⟩
  repeat ktr_units
  have e : (n >>> q &&& 1 = 0) ↔ n.testBit q = false := by
    rw [Nat.testBit]
    simp [Nat.and_one_is_mod, Nat.one_and_eq_mod_two]
  refine bite (fun hb => ?_) fun hb => ?_
  · have hb := e.mp (of_decide_eq_true hb)
    have : q ≠ p := fun e => by subst e; rw [hp] at hb; cases hb
    repeat ktr_units
    exact ⟨p - (q + 1), by omega, q + 1, _, rfl, rfl, by omega, rfl⟩
  · have hb := fun h => of_decide_eq_false hb (e.mpr h)
    repeat ktr_units
    exact h _ _ (by simpa using hb)
end
-- W8
section
variable {F : Fx} {vs : List (Option Value)} {D D' R : Led}
variable {Q : Value → List (Option Value) → Led → Prop} {QM : Value × List Value → List (Option Value) → Led → Prop}
variable {nodes : List (Option (Nat × Nat))} {inputs : List Nat} {A : Ag}
theorem popIL_m {l : Addr} {o : Obj} {ws : List Nat} {pl : Sem Bool} (hm : (l, o) ∈ D) (hi : IL o ws) (h : QM (.builtin "list.pop", [.ref l]) vs D) : HT F vs D (getMethod (.ref l) "pop" pl) QM := by
  obtain ⟨its, m, rfl, ha⟩ := hi
  exact fun s hs => PyProof.Rows.getMethod_pop_N hs.nw hm ⟨_, _, hs, h⟩
noncomputable abbrev sd (seen : List Nat) : List (Int × Value) := seen.map fun k : Nat => ((k : Int), Value.bool true)
theorem sd_at (seen : List Nat) (j : Nat) : valueAt (sd seen) (j : Int) = if j ∈ seen then some (Value.bool true) else none := by
  induction seen with
  | nil => simp [valueAt, sd]
  | cons k seen ih =>
    by_cases e : k = j
    · subst e; simp [valueAt, sd]
    · have e' : ¬ (k : Int) = (j : Int) := by omega
      have e2 : ¬ j = k := fun h => e h.symm
      have : valueAt (sd (k :: seen)) (j : Int) = valueAt (sd seen) (j : Int) := by
        simp only [valueAt, sd, List.map_cons, List.find?_cons, e', decide_false]
      rw [this, ih]
      simp [e2]
theorem sd_new {seen : List Nat} {j : Nat} (h : j ∉ seen) : stored (sd seen) (j : Int) (.bool true) = sd (seen ++ [j]) := by
  have : (sd seen).any (fun kv => kv.1 = (j : Int)) = false := by
    rw [List.any_eq_false]
    intro kv hk
    obtain ⟨k, hk', rfl⟩ := List.mem_map.mp hk
    have : ¬ (k : Int) = (j : Int) := fun e => h ((by omega : k = j) ▸ hk')
    simpa using this
  rw [stored, this]
  simp [sd]
/-- what cone_nodes hands back -/
structure Cone (nodes : List (Option (Nat × Nat))) (l r : Nat) (ws : List Nat) : Prop where
  srt : ws.Pairwise (· < ·)
  pos : ∀ k ∈ ws, 0 < k ∧ k < nodes.length
  hl : l >>> 1 = 0 ∨ l >>> 1 ∈ ws
  hr : r >>> 1 = 0 ∨ r >>> 1 ∈ ws
  cl : ∀ (k p q : Nat), k ∈ ws → nodes[k]? = some (some (p, q)) → (p >>> 1 = 0 ∨ p >>> 1 ∈ ws) ∧ (q >>> 1 = 0 ∨ q >>> 1 ∈ ws)
noncomputable def Rch (st seen : List Nat) (k : Nat) : Prop := k = 0 ∨ k ∈ seen ∨ k ∈ st
structure CoI (nodes : List (Option (Nat × Nat))) (l r : Nat) (st seen : List Nat) : Prop where
  nd : seen.Nodup
  pos : ∀ k ∈ seen, 0 < k ∧ k < nodes.length
  bd : ∀ k ∈ st, k < nodes.length
  hl : Rch st seen (l >>> 1)
  hr : Rch st seen (r >>> 1)
  cl : ∀ (k p q : Nat), k ∈ seen → nodes[k]? = some (some (p, q)) → Rch st seen (p >>> 1) ∧ Rch st seen (q >>> 1)
theorem CoI.len {l r st seen} (h : CoI nodes l r st seen) : seen.length ≤ nodes.length := by
  have := List.Nodup.length_le_of_subset h.nd (l₂ := List.range nodes.length) fun k hk => List.mem_range.mpr (h.pos k hk).2
  simpa using this
theorem last_split {st : List Nat} (h : 0 < st.length) : st = st.dropLast ++ [st.getLastD 0] := by
  have hne : st ≠ [] := fun e => by simp [e] at h
  rw [List.getLastD_eq_getLast?, List.getLast?_eq_some_getLast hne]
  exact (List.dropLast_concat_getLast hne).symm
theorem CoI.pop {l r st seen} (h : CoI nodes l r st seen) (hs : 0 < st.length) (hn : st.getLastD 0 = 0 ∨ st.getLastD 0 ∈ seen) : CoI nodes l r st.dropLast seen := by
  have e := last_split hs
  have go : ∀ k, Rch st seen k → Rch st.dropLast seen k := fun k hk => by
    rcases hk with h0 | h1 | h2
    · exact .inl h0
    · exact .inr (.inl h1)
    · rw [e] at h2
      rcases List.mem_append.mp h2 with h2 | h2
      · exact .inr (.inr h2)
      · have := List.mem_singleton.mp h2
        subst this
        rcases hn with h0 | h1
        · exact .inl h0
        · exact .inr (.inl h1)
  exact ⟨h.nd, h.pos, fun k hk => h.bd k (e ▸ List.mem_append.mpr (.inl hk)), go _ h.hl, go _ h.hr, fun k p q hk hp => let z := h.cl k p q hk hp; ⟨go _ z.1, go _ z.2⟩⟩
theorem CoI.add {l r st seen} (h : CoI nodes l r st seen) (hs : 0 < st.length) (h0 : st.getLastD 0 ≠ 0) (hn : st.getLastD 0 ∉ seen) (st' : List Nat) (hst : ∀ k ∈ st', k < nodes.length)
    (hc : ∀ p q, nodes[st.getLastD 0]? = some (some (p, q)) → p >>> 1 ∈ st' ∧ q >>> 1 ∈ st') : CoI nodes l r (st.dropLast ++ st') (seen ++ [st.getLastD 0]) := by
  have e := last_split hs
  have go : ∀ k, Rch st seen k → Rch (st.dropLast ++ st') (seen ++ [st.getLastD 0]) k := fun k hk => by
    rcases hk with h0 | h1 | h2
    · exact .inl h0
    · exact .inr (.inl (List.mem_append.mpr (.inl h1)))
    · rw [e] at h2
      rcases List.mem_append.mp h2 with h2 | h2
      · exact .inr (.inr (List.mem_append.mpr (.inl h2)))
      · exact .inr (.inl (List.mem_append.mpr (.inr h2)))
  have hm : st.getLastD 0 ∈ st := by
    have : st.getLastD 0 ∈ st.dropLast ++ [st.getLastD 0] := List.mem_append.mpr (.inr (.head _))
    rwa [← e] at this
  refine ⟨?_, fun k hk => ?_, fun k hk => ?_, go _ h.hl, go _ h.hr, fun k p q hk hp => ?_⟩
  · refine List.nodup_append.mpr ⟨h.nd, by simp, fun a ha b hb e => ?_⟩
    rw [List.mem_singleton.mp hb] at e
    exact hn (e ▸ ha)
  · rcases List.mem_append.mp hk with hk | hk
    · exact h.pos k hk
    · rw [List.mem_singleton.mp hk]; exact ⟨by omega, h.bd _ hm⟩
  · rcases List.mem_append.mp hk with hk | hk
    · exact h.bd k (e ▸ List.mem_append.mpr (.inl hk))
    · exact hst k hk
  · rcases List.mem_append.mp hk with hk | hk
    · exact let z := h.cl k p q hk hp; ⟨go _ z.1, go _ z.2⟩
    · rw [List.mem_singleton.mp hk] at hp
      obtain ⟨z1, z2⟩ := hc p q hp
      exact ⟨.inr (.inr (List.mem_append.mpr (.inr z1))), .inr (.inr (List.mem_append.mpr (.inr z2)))⟩
theorem CoI.done {l r seen} (h : CoI nodes l r [] seen) : Cone nodes l r (seen.mergeSort (fun a b => decide (a ≤ b))) := by
  have hp := List.mergeSort_perm seen (fun a b => decide (a ≤ b))
  have go : ∀ k, Rch [] seen k → k = 0 ∨ k ∈ seen.mergeSort (fun a b => decide (a ≤ b)) := fun k hk => by
    rcases hk with h0 | h1 | h2
    · exact .inl h0
    · exact .inr (hp.mem_iff.mpr h1)
    · cases h2
  refine ⟨?_, fun k hk => h.pos k (hp.mem_iff.mp hk), go _ h.hl, go _ h.hr, fun k p q hk hq => let z := h.cl k p q (hp.mem_iff.mp hk) hq; ⟨go _ z.1, go _ z.2⟩⟩
  have h1 := List.pairwise_mergeSort (le := fun a b : Nat => decide (a ≤ b)) (fun a b c h1 h2 => by simp at *; omega) (fun a b => by simp; omega) seen
  have h2 : (seen.mergeSort (fun a b => decide (a ≤ b))).Nodup := hp.nodup_iff.mpr h.nd
  exact (h1.and h2).imp fun ⟨x, y⟩ => by simp at x; omega
end
-- W9
section
variable {F : Fx} {vs : List (Option Value)} {D D' R : Led}
variable {Q : Value → List (Option Value) → Led → Prop} {QM : Value × List Value → List (Option Value) → Led → Prop}
variable {nodes : List (Option (Nat × Nat))} {inputs : List Nat} {A : Ag}
theorem w_cone_nodes (ok : F.Ok) (hlv : F.lv < 38) {b : Addr} {l r : Nat} {t1 t2 : Tok} (ha : AgIn F.w A D nodes inputs) (hb : (b, tupOf [VN l t1, VN r t2]) ∈ D) (hl : l >>> 1 < nodes.length) (hr : r >>> 1 < nodes.length) (hn : nodes.length < 64) (h0 : 0 < l >>> 1)
    (h : ∀ a o ws, IL o ws → Cone nodes l r ws → Q (.ref a) vs ((a, o) :: D)) : HT F vs D (call (.ref 354) [.ref A.g, .ref b]) Q := by
  have hg := ha.g
  have hd := ha.d
  have hN := ha.n
  refine callP_ ok k_cone_nodes (ps := [Str.ofString "aig", Str.ofString "literals"]) (ls := [Str.ofString "seen", Str.ofString "stack", Str.ofString "literal", Str.ofString "node", Str.ofString "pair"]) rfl rfl rfl (by omega) ?_
  intro g L ok'
  show HT _ [some _, some _, none, none, none, none, none] _ _ _
  refine execs_cons_ ?_
  repeat ktr_units
  rename_i sn od hsn hod stk hstk
  refine forTN_ ok' (l := b) (its := [VN l t1, VN r t2]) (ws := [l, r]) (j := 4) rfl (.cons (.cons .nil)) (fun i vs' D' => ∃ u4 os, vs' = [some (.ref A.g), some (.ref b), some (.ref sn), some (.ref stk), u4, none, none] ∧ D' = (stk, os) :: (sn, od) :: D ∧ IL os ([l >>> 1, r >>> 1].take i)) ?_ ?_ ?_ ?_
  · repeat ktr_units
    exact ⟨rfl, _, _, rfl, rfl, [], 0, rfl, .nil⟩
  · rintro i _ _ ⟨u4, os, rfl, rfl, ho⟩
    k_mem
  · rintro i n t _ _ E hin ⟨u4, os, rfl, rfl, ho⟩
    show HT _ [_, _, _, _, _, _, _] ((_, _) :: (_, _) :: (D ++ E)) _ _
    refine execs_cons_ ?_
    repeat ktr_units
    refine appendIL_m (by k_mem) ho ?_
    repeat ktr_units
    refine append_il (by tb_start) ho (by simp [sizeLine]; omega) fun o' ho' => ?_
    refine ⟨by simp, ?_⟩
    repeat ktr_units
    refine ⟨_, rfl, _, o', rfl, rfl, ?_⟩
    match i, hin with
    | 0, e => cases e; exact ho'
    | 1, e => cases e; exact ho'
  · rintro _ _ ⟨u4, os, rfl, rfl, ho⟩
    repeat ktr_units
    refine While_ (fun k vs' D' => ∃ u4 u5 u6 os od st seen, vs' = [some (.ref A.g), some (.ref b), some (.ref sn), some (.ref stk), u4, u5, u6] ∧ D' = (stk, os) :: (sn, od) :: D ∧ IL os st ∧ DI F.w od (sd seen) ∧ CoI nodes l r st seen ∧ k = 3 * (nodes.length - seen.length) + st.length ∧ st.length + 3 * (nodes.length - seen.length) ≤ 3 * nodes.length + 2) ?_ _ ⟨_, _, _, os, od, [l >>> 1, r >>> 1], [], rfl, rfl, ho, hod, ⟨.nil, by simp, by simp; omega, .inr (.inr (by simp)), .inr (.inr (by simp)), by simp⟩, rfl, by simp; omega⟩
    rintro k _ _ ⟨u4, u5, u6, os, od, st, seen, rfl, rfl, hos, hod, hC, rfl, hz2⟩
    repeat ktr_units
    refine truthy_il (by k_mem) hos (by omega) ?_
    refine bite (fun hb => ?_) fun hb => ?_
    · have hpos : 0 < st.length := by cases st with | nil => simp at hb | cons => simp
      repeat ktr_units
      refine popIL_m (by k_mem) hos ?_
      repeat ktr_units
      refine pop_il (by tb_start) hos hpos (by simp [sizeLine]; omega) fun t os' hos' => ?_
      repeat ktr_units
      have hbd := hC.bd
      have hlast : st.getLastD 0 < nodes.length := hbd _ (last_mem hpos)
      generalize hx : st.getLastD 0 = x at *
      have hdl : st.dropLast.length = st.length - 1 := List.length_dropLast
      refine bite (fun hb1 => ?_) fun hb1 => ?_
      · have hx0 : x ≠ 0 := by simpa using hb1
        repeat ktr_units
        refine notIn_d (F := F.sub g L F.A d_cone_nodes 354) ok' (by k_mem) hod ?_
        repeat ktr_units
        rw [sd_at]
        refine bite (fun hb2 => ?_) fun hb2 => ?_
        · have hxs : x ∉ seen := fun hm => by simp [hm] at hb2
          repeat ktr_units
          refine setItem_dz (F := F.sub g L F.A d_cone_nodes 354) ok' (by tb_start) hod (by have := hC.len; simp [sd, sizeLine]; omega) fun od' hod' => ?_
          rw [sd_new hxs] at hod'
          repeat ktr_units
          refine ag_get_nodes ok' (by k_mem) (by k_mem) rfl ?_
          repeat ktr_units
          refine tail_nl (by k_mem) ha.N (getDn hlast) (by omega) fun v hv => ?_
          repeat ktr_units
          have hp := getDn hlast
          generalize nodes.getD x none = p at hp hv
          cases p with
          | none =>
            cases hv
            refine bite (fun e => by cases e) fun _ => ?_
            repeat ktr_units
            have hC' := hC.add hpos (by rw [hx]; exact hx0) (by rw [hx]; exact hxs) [] (by simp) (by rw [hx, hp]; intro p q e; cases e)
            have hl' := hC'.len
            rw [hx, List.append_nil] at hC'
            rw [List.length_append] at hl'
            simp only [List.length_singleton] at hl'
            have e1 : (seen ++ [x]).length = seen.length + 1 := by simp
            exact ⟨_, by omega, _, _, _, os', od', st.dropLast, seen ++ [x], rfl, rfl, hos', hod', hC', rfl, by omega⟩
          | some p =>
            obtain ⟨p, q⟩ := p
            obtain ⟨c, t5, t6, rfl, hc⟩ := hv
            obtain ⟨hwl, hwr⟩ := ha.wf _ _ _ hp
            refine bite (fun _ => ?_) fun e => by cases e
            repeat ktr_units
            refine appendIL_m (by k_mem) hos' ?_
            repeat ktr_units
            refine tail_tup_ (j := 0) (by k_mem) rfl (by decide) rfl ?_
            repeat ktr_units
            refine append_il (by tb_start) hos' (by simp only [sizeLine]; omega) fun os2 hos2 => ?_
            refine ⟨by simp, ?_⟩
            repeat ktr_units
            refine appendIL_m (by k_mem) hos2 ?_
            repeat ktr_units
            refine tail_tup_ (j := 1) (by k_mem) rfl (by decide) rfl ?_
            repeat ktr_units
            refine append_il (by tb_start) hos2 (by simp [sizeLine]; omega) fun os3 hos3 => ?_
            refine ⟨by simp, ?_⟩
            repeat ktr_units
            have hC' := hC.add hpos (by rw [hx]; exact hx0) (by rw [hx]; exact hxs) [p >>> 1, q >>> 1] (by simp; omega) (by rw [hx, hp]; intro p q e; cases e; simp)
            have hl' := hC'.len
            rw [hx] at hC'
            rw [List.length_append] at hl'
            simp only [List.length_singleton] at hl'
            rw [List.append_assoc] at hos3
            have e1 : (seen ++ [x]).length = seen.length + 1 := by simp
            have e2 : (st.dropLast ++ [p >>> 1, q >>> 1]).length = st.length - 1 + 2 := by simp
            exact ⟨_, by omega, _, _, _, os3, od', st.dropLast ++ [p >>> 1, q >>> 1], seen ++ [x], rfl, rfl, hos3, hod', hC', rfl, by omega⟩
        · have hxs : x ∈ seen := by
            by_cases hm : x ∈ seen
            · exact hm
            · simp [hm] at hb2
          repeat ktr_units
          exact ⟨_, by omega, _, _, _, os', od, st.dropLast, seen, rfl, rfl, hos', hod, hC.pop hpos (.inr (hx ▸ hxs)), rfl, by omega⟩
      · have hx0 : x = 0 := by simpa using hb1
        repeat ktr_units
        exact ⟨_, by omega, _, _, _, os', od, st.dropLast, seen, rfl, rfl, hos', hod, hC.pop hpos (.inl (hx ▸ hx0)), rfl, by omega⟩
    · have hst : st = [] := by simpa using hb
      subst hst
      repeat ktr_units
      have hsl := hC.len
      have hne : seen ≠ [] := fun e => by
        rcases hC.hl with z | z | z
        · omega
        · rw [e] at z; cases z
        · cases z
      refine HT.post (sorted_d (F := F.sub g L F.A d_cone_nodes 354) ok' (by k_mem) hod (by omega) hne fun a o hi hfr => ⟨(a, o) :: D, Le.of_sub (by simp), ?_⟩)
      exact h a o _ hi hC.done
end
-- P1
/-- the word of a node by recursion; the first number is fuel -/
noncomputable def ev (nodes : List (Option (Nat × Nat))) (leaf : Nat → Nat) (m : Nat) : Nat → Nat → Nat
  | 0, _ => 0
  | f + 1, k => match nodes.getD k none with
    | none => leaf k
    | some p => lit (ev nodes leaf m f (p.1 >>> 1)) p.1 m &&& lit (ev nodes leaf m f (p.2 >>> 1)) p.2 m
noncomputable def WfN (nodes : List (Option (Nat × Nat))) : Prop := ∀ (k l r : Nat), nodes[k]? = some (some (l, r)) → l >>> 1 < k ∧ r >>> 1 < k
theorem getD_pair {nodes : List (Option (Nat × Nat))} {k : Nat} {p : Nat × Nat} (h : nodes.getD k none = some p) : nodes[k]? = some (some p) := by
  rw [List.getD_eq_getElem?_getD] at h
  cases e : nodes[k]? with
  | none => rw [e] at h; cases h
  | some x => rw [e] at h; exact congrArg some h
theorem ev_fuel {nodes : List (Option (Nat × Nat))} (hw : WfN nodes) (leaf : Nat → Nat) (m : Nat) : ∀ k f g : Nat, k < f → k < g → ev nodes leaf m f k = ev nodes leaf m g k := by
  intro k
  induction k using Nat.strongRecOn with
  | ind k ih =>
    intro f g hf hg
    cases f with
    | zero => omega
    | succ f =>
      cases g with
      | zero => omega
      | succ g =>
        simp only [ev]
        cases e : nodes.getD k none with
        | none => rfl
        | some p =>
          obtain ⟨h1, h2⟩ := hw k p.1 p.2 (getD_pair e)
          simp only [ih _ h1 f g (by omega) (by omega), ih _ h2 f g (by omega) (by omega)]
/-- the word of a node -/
noncomputable def wd (nodes : List (Option (Nat × Nat))) (leaf : Nat → Nat) (m k : Nat) : Nat := ev nodes leaf m (k + 1) k
theorem wd_none {nodes : List (Option (Nat × Nat))} {leaf : Nat → Nat} {m k : Nat} (h : nodes.getD k none = none) : wd nodes leaf m k = leaf k := by
  simp only [wd, ev, h]
theorem wd_some {nodes : List (Option (Nat × Nat))} (hw : WfN nodes) {leaf : Nat → Nat} {m k l r : Nat} (h : nodes[k]? = some (some (l, r))) :
    wd nodes leaf m k = lit (wd nodes leaf m (l >>> 1)) l m &&& lit (wd nodes leaf m (r >>> 1)) r m := by
  have e : nodes.getD k none = some (l, r) := by rw [List.getD_eq_getElem?_getD, h]; rfl
  obtain ⟨h1, h2⟩ := hw k l r h
  simp only [wd]
  rw [ev, e]
  simp only [ev_fuel hw leaf m (l >>> 1) k (l >>> 1 + 1) h1 (by omega), ev_fuel hw leaf m (r >>> 1) k (r >>> 1 + 1) h2 (by omega)]
/-- the value of a node under an assignment of the leaves -/
noncomputable def bv (nodes : List (Option (Nat × Nat))) (leaf : Nat → Bool) (k : Nat) : Bool := (wd nodes (fun i => (leaf i).toNat) 1 k).testBit 0
noncomputable def bl' (nodes : List (Option (Nat × Nat))) (leaf : Nat → Bool) (l : Nat) : Bool := (bv nodes leaf (l >>> 1)) ^^ (decide (l &&& 1 = 1))
theorem lit_bit (w l m j : Nat) : (lit w l m).testBit j = (w.testBit j ^^ (decide (l &&& 1 = 1) && m.testBit j)) := by
  unfold lit
  by_cases h : l &&& 1 = 1
  · rw [if_pos h, decide_eq_true h, Nat.testBit_xor, Bool.true_and]
  · rw [if_neg h, decide_eq_false h, Bool.false_and, Bool.xor_false]
theorem wd_bit {nodes : List (Option (Nat × Nat))} (hw : WfN nodes) (leaf : Nat → Nat) (m j : Nat) (hm : m.testBit j = true) : ∀ k, (wd nodes leaf m k).testBit j = bv nodes (fun i => (leaf i).testBit j) k := by
  intro k
  induction k using Nat.strongRecOn with
  | ind k ih =>
    cases e : nodes.getD k none with
    | none =>
      rw [wd_none e, bv, wd_none e]
      cases (leaf k).testBit j <;> rfl
    | some p =>
      obtain ⟨l, r⟩ := p
      have e' := getD_pair e
      obtain ⟨h1, h2⟩ := hw k l r e'
      rw [wd_some hw e', bv, wd_some hw e']
      have q1 := ih _ h1
      have q2 := ih _ h2
      unfold bv at q1 q2
      simp only [Nat.testBit_and, lit_bit, hm, q1, q2]
      rfl
theorem bv_some {nodes : List (Option (Nat × Nat))} (hw : WfN nodes) {leaf : Nat → Bool} {k l r : Nat} (h : nodes[k]? = some (some (l, r))) : bv nodes leaf k = (bl' nodes leaf l && bl' nodes leaf r) := by
  rw [bv, wd_some hw h]
  simp only [Nat.testBit_and, lit_bit]
  simp [bl', bv]
theorem bv_none {nodes : List (Option (Nat × Nat))} {leaf : Nat → Bool} {k : Nat} (h : nodes.getD k none = none) : bv nodes leaf k = leaf k := by
  rw [bv, wd_none h]
  cases leaf k <;> rfl
/-- the value depends on the leaves of a closed set alone -/
theorem bv_congr {nodes : List (Option (Nat × Nat))} (hw : WfN nodes) {S : Nat → Prop} (hS : ∀ (k l r : Nat), S k → nodes[k]? = some (some (l, r)) → S (l >>> 1) ∧ S (r >>> 1)) {f g : Nat → Bool} (hfg : ∀ k, S k → nodes.getD k none = none → f k = g k) : ∀ k, S k → bv nodes f k = bv nodes g k := by
  intro k
  induction k using Nat.strongRecOn with
  | ind k ih =>
    intro hk
    cases e : nodes.getD k none with
    | none => rw [bv_none e, bv_none e, hfg k hk e]
    | some p =>
      obtain ⟨l, r⟩ := p
      have e' := getD_pair e
      obtain ⟨h1, h2⟩ := hw k l r e'
      obtain ⟨s1, s2⟩ := hS k l r hk e'
      rw [bv_some hw e', bv_some hw e', bl', bl', bl', bl', ih _ h1 s1, ih _ h2 s2]
-- W10
section
variable {F : Fx} {vs : List (Option Value)} {D D' R : Led}
variable {Q : Value → List (Option Value) → Led → Prop}
variable {nodes : List (Option (Nat × Nat))} {inputs : List Nat} {A : Ag}
/-- the leaves' words in a table over the inputs -/
noncomputable def tleaf (ins : List Nat) (k : Nat) : Nat := if k ∈ ins then vt (ins.idxOf k) ins.length else 0
/-- the dict holds the words of the nodes in S -/
noncomputable def WD (kvs : List (Int × Value)) (f : Nat → Nat) (S : Nat → Prop) : Prop := ∀ k, S k → ∃ t, valueAt kvs (k : Int) = some (VN (f k) t)
theorem WD.put {kvs f S} {k : Nat} {t} (h : WD kvs f S) : WD (stored kvs (k : Int) (VN (f k) t)) f (fun j => j = k ∨ S j) := by
  intro j hj
  rw [valueAt_stored]
  by_cases e : j = k
  · subst e; exact ⟨t, by simp⟩
  · rw [if_neg (by omega)]
    exact h j (hj.resolve_left e)
theorem WD.mono {kvs f S S'} (h : WD kvs f S) (hs : ∀ k, S' k → S k) : WD kvs f S' := fun k hk => h k (hs k hk)
theorem take_lt {ws : List Nat} (hp : ws.Pairwise (· < ·)) {i n k : Nat} (hi : ws[i]? = some n) (hk : k ∈ ws) (hlt : k < n) : k ∈ ws.take i := by
  obtain ⟨j, hj, rfl⟩ := List.getElem_of_mem hk
  obtain ⟨hil, rfl⟩ := List.getElem?_eq_some_iff.mp hi
  have : j < i := by
    rcases Nat.lt_trichotomy j i with h | h | h
    · exact h
    · subst h; omega
    · have := List.pairwise_iff_getElem.mp hp i j hil hj h
      omega
  exact List.mem_take_iff_getElem.mpr ⟨j, by omega, rfl⟩
theorem w_cone_words (ok : F.Ok) (hlv : F.lv < 36) {ln li : Addr} {on oi : Obj} {l r : Nat} {ws ins : List Nat} (ha : AgIn F.w A D nodes inputs) (hn : (ln, on) ∈ D) (hni : IL on ws) (hi : (li, oi) ∈ D) (hii : IL oi ins) (hC : Cone nodes l r ws)
    (hz : nodes.length < 64) (h0 : nodes.getD 0 none = none) (hk : ins.length ≤ 4) (hnd : ins.Nodup) (hin : ∀ k, k ∈ ins ↔ k ∈ ws ∧ nodes.getD k none = none)
    (h : ∀ d o kvs, DI F.w o kvs → WD kvs (wd nodes (tleaf ins) (ft ins.length)) (fun k => k = 0 ∨ k ∈ ws) → Q (.ref d) vs ((d, o) :: D)) : HT F vs D (call (.ref 366) [.ref A.g, .ref ln, .ref li]) Q := by
  have hg := ha.g
  have hd := ha.d
  have hN := ha.n
  have hw : WfN nodes := ha.wf
  have h0n : (0 : Nat) ∉ ins := fun hm => by have := hC.pos 0 ((hin 0).mp hm).1; omega
  refine callP_ ok k_cone_words (ps := [Str.ofString "aig", Str.ofString "nodes", Str.ofString "inputs"]) (ls := [Str.ofString "k", Str.ofString "full", Str.ofString "words", Str.ofString "i", Str.ofString "node", Str.ofString "pair", Str.ofString "left"]) rfl rfl rfl (by omega) ?_
  intro g L ok'
  show HT _ [some _, some _, some _, none, none, none, none, none, none, none] _ _ _
  refine execs_cons_ ?_
  repeat ktr_units
  refine len_il (by k_mem) hii (by omega) fun _ => ?_
  repeat ktr_units
  refine w_full_table ok' (by show F.lv + 1 < 40; omega) (by omega) fun tf => ?_
  repeat ktr_units
  refine newDict00_ fun dw ow tw hdw how => ?_
  repeat ktr_units
  rename_i tk
  refine forR_ ok' (n := ins.length) (j := 6) rfl (by omega) (fun i vs' D' => ∃ u6 o kvs, vs' = [some (.ref A.g), some (.ref ln), some (.ref li), some (VN ins.length tk), some (VN (ft ins.length) tf), some (.ref dw), u6, none, none, none] ∧ D' = (dw, o) :: D ∧ DI F.w o kvs ∧ kvs.length ≤ i + 1 ∧ WD kvs (wd nodes (tleaf ins) (ft ins.length)) (fun k => k = 0 ∨ k ∈ ins.take i)) ?_ ?_ ?_
  · repeat ktr_units
    refine range1_ fun r t1 t2 hr => ?_
    refine ⟨_, _, _, _, _, rfl, rfl, _, ow, _, rfl, rfl, how, by simp, fun k hk => ?_⟩
    rcases hk with rfl | hk
    · refine ⟨tw, ?_⟩
      rw [wd_none h0, tleaf, if_neg h0n]
      rfl
    · simp at hk
  · rintro i t _ _ E hil ⟨u6, o, kvs, rfl, rfl, ho, hlen, hW⟩
    show HT _ [_, _, _, _, _, _, _, _, _, _] ((_, _) :: (D ++ E)) _ _
    have hget := getD_some hil
    have hmem : ins.getD i 0 ∈ ins := List.mem_of_getElem? hget
    have hidx : ins.idxOf (ins.getD i 0) = i := by
      have e : ins.getD i 0 = ins[i] := by simp [List.getD_eq_getElem?_getD, List.getElem?_eq_getElem hil]
      rw [e]
      exact hnd.idxOf_getElem i hil
    have hwd : wd nodes (tleaf ins) (ft ins.length) (ins.getD i 0) = vt i ins.length := by
      rw [wd_none ((hin _).mp hmem).2, tleaf, if_pos hmem, hidx]
    refine execs_cons_ ?_
    repeat ktr_units
    refine w_var_table ok' (by show F.lv + 1 < 39; omega) (by omega) (by omega) fun tv => ?_
    repeat ktr_units
    refine tail_il (by k_mem) hii hget (by omega) fun _ => ?_
    refine setItem_dz (F := F.sub g L F.A d_cone_words 366) ok' (by tb_start) ho (by simp only [sizeLine]; omega) fun o' ho' => ?_
    repeat ktr_units
    rw [← hwd] at ho'
    refine ⟨_, rfl, _, o', _, rfl, rfl, ho', Nat.le_trans (stored_le _ _ _) (by omega), hW.put.mono fun k hk => ?_⟩
    rcases hk with h | h
    · exact .inr (.inl h)
    · rw [List.take_add_one, hget] at h
      rcases List.mem_append.mp h with h | h
      · exact .inr (.inr h)
      · exact .inl (by simpa using h)
  · rintro _ _ ⟨u6, o, kvs, rfl, rfl, ho, hlen, hW⟩
    rw [List.take_length] at hW
    repeat ktr_units
    refine forIL_ ok' (l := ln) (o := on) (ws := ws) (j := 7) rfl hni (fun i vs' D' => ∃ u7 u8 u9 o kvs, vs' = [some (.ref A.g), some (.ref ln), some (.ref li), some (VN ins.length tk), some (VN (ft ins.length) tf), some (.ref dw), u6, u7, u8, u9] ∧ D' = (dw, o) :: D ∧ DI F.w o kvs ∧ kvs.length ≤ ins.length + 1 + i ∧ WD kvs (wd nodes (tleaf ins) (ft ins.length)) (fun k => k = 0 ∨ k ∈ ins ∨ k ∈ ws.take i)) ?_ ?_ ?_ ?_
    · repeat ktr_units
      exact ⟨rfl, _, _, _, o, kvs, rfl, rfl, ho, hlen, hW.mono fun k hk => by simpa using hk⟩
    · rintro i _ _ ⟨u7, u8, u9, o, kvs, rfl, rfl, ho, hlen, hW⟩
      k_mem
    · rintro i n t _ _ E hin2 ⟨u7, u8, u9, o, kvs, rfl, rfl, ho, hlen, hW⟩
      show HT _ [_, _, _, _, _, _, _, _, _, _] ((_, _) :: (D ++ E)) _ _
      have hnw : n ∈ ws := List.mem_of_getElem? hin2
      obtain ⟨hn0, hnl⟩ := hC.pos n hnw
      have hil : i < ws.length := (List.getElem?_eq_some_iff.mp hin2).1
      have hwl : ws.length ≤ nodes.length := by
        have := List.Nodup.length_le_of_subset (hC.srt.imp fun h => Nat.ne_of_lt h) (l₂ := List.range nodes.length) fun k hk => List.mem_range.mpr (hC.pos k hk).2
        simpa using this
      have hp := getDn hnl
      refine execs_cons_ ?_
      repeat ktr_units
      refine ag_get_nodes ok' (by k_mem) (by k_mem) rfl ?_
      repeat ktr_units
      refine tail_nl (by k_mem) ha.N hp (by omega) fun v hv => ?_
      repeat ktr_units
      cases hpe : nodes.getD n none with
      | none =>
        rw [hpe] at hv
        cases hv
        refine bite (fun e => by cases e) fun _ => ?_
        repeat ktr_units
        refine ⟨_, rfl, _, _, _, o, kvs, rfl, rfl, ho, by omega, hW.mono fun k hk => ?_⟩
        rcases hk with h | h | h
        · exact .inl h
        · exact .inr (.inl h)
        · rw [List.take_add_one, hin2] at h
          rcases List.mem_append.mp h with h | h
          · exact .inr (.inr h)
          · have : k = n := by simpa using h
            subst this
            exact .inr (.inl ((hin k).mpr ⟨hnw, hpe⟩))
      | some p =>
        obtain ⟨p, q⟩ := p
        rw [hpe] at hv hp
        obtain ⟨b, t3, t4, rfl, hb⟩ := hv
        obtain ⟨hwl', hwr'⟩ := hw _ _ _ hp
        obtain ⟨c1, c2⟩ := hC.cl _ _ _ hnw hp
        have in1 : p >>> 1 = 0 ∨ p >>> 1 ∈ ins ∨ p >>> 1 ∈ ws.take i := c1.imp id fun h => .inr (take_lt hC.srt hin2 h hwl')
        have in2 : q >>> 1 = 0 ∨ q >>> 1 ∈ ins ∨ q >>> 1 ∈ ws.take i := c2.imp id fun h => .inr (take_lt hC.srt hin2 h hwr')
        obtain ⟨ta, ea⟩ := hW _ in1
        obtain ⟨tb, eb⟩ := hW _ in2
        refine bite (fun _ => ?_) fun e => by cases e
        repeat ktr_units
        refine tail_tup_ (j := 0) (by k_mem) rfl (by decide) rfl ?_
        repeat ktr_units
        refine w_literal_word ok' (by show F.lv + 1 < 40; omega) (.inr ⟨_, _, _, _, rfl, by k_mem, ho, ea⟩) fun _ => ?_
        repeat ktr_units
        refine tail_tup_ (j := 1) (by k_mem) rfl (by decide) rfl ?_
        repeat ktr_units
        refine w_literal_word ok' (by show F.lv + 1 < 40; omega) (.inr ⟨_, _, _, _, rfl, by k_mem, ho, eb⟩) fun _ => ?_
        repeat ktr_units
        refine setItem_dz (F := F.sub g L F.A d_cone_words 366) ok' (by tb_start) ho (by simp only [sizeLine]; omega) fun o' ho' => ?_
        repeat ktr_units
        rw [← wd_some hw hp] at ho'
        refine ⟨_, rfl, _, _, _, o', _, rfl, rfl, ho', Nat.le_trans (stored_le _ _ _) (by omega), hW.put.mono fun k hk => ?_⟩
        rcases hk with h | h | h
        · exact .inr (.inl h)
        · exact .inr (.inr (.inl h))
        · rw [List.take_add_one, hin2] at h
          rcases List.mem_append.mp h with h | h
          · exact .inr (.inr (.inr h))
          · exact .inl (by simpa using h)
    · rintro _ _ ⟨u7, u8, u9, o, kvs, rfl, rfl, ho, hlen, hW⟩
      rw [List.take_length] at hW
      repeat ktr_units
      exact h dw o kvs ho (hW.mono fun k hk => hk.imp id .inr)
end
-- W11
section
variable {F : Fx} {vs : List (Option Value)} {D D' R : Led}
variable {Q : Value → List (Option Value) → Led → Prop}
variable {nodes : List (Option (Nat × Nat))} {inputs : List Nat} {A : Ag}
/-- the dict holds f on S and nothing else -/
noncomputable def PD (kvs : List (Int × Value)) (f : Nat → Nat) (S : Nat → Prop) : Prop := ∀ k : Nat, (S k → ∃ t, valueAt kvs (k : Int) = some (VN (f k) t)) ∧ (¬ S k → valueAt kvs (k : Int) = none)
theorem PD.put {kvs f S} {k : Nat} {t} (h : PD kvs f S) : PD (stored kvs (k : Int) (VN (f k) t)) f (fun j => j = k ∨ S j) := by
  intro j
  rw [valueAt_stored]
  by_cases e : j = k
  · subst e; exact ⟨fun _ => ⟨t, by simp⟩, fun hn => (hn (.inl rfl)).elim⟩
  · rw [if_neg (by omega)]
    exact ⟨fun hj => (h j).1 (hj.resolve_left e), fun hn => (h j).2 fun hs => hn (.inr hs)⟩
theorem PD.iff {kvs f S S'} (h : PD kvs f S) (hs : ∀ k, S' k ↔ S k) : PD kvs f S' := fun k => ⟨fun x => (h k).1 ((hs k).mp x), fun x => (h k).2 fun y => x ((hs k).mpr y)⟩
theorem xor_zero {a b : Nat} (h : a ^^^ b = 0) : a = b := by
  refine Nat.eq_of_testBit_eq fun i => ?_
  have := congrArg (·.testBit i) h
  simp only [Nat.testBit_xor, Nat.zero_testBit] at this
  revert this
  cases a.testBit i <;> cases b.testBit i <;> simp
/-- the bits of a row -/
noncomputable def rowbit (ins : List Nat) (row k : Nat) : Nat := row >>> (ins.idxOf k) &&& 1
theorem tb_of_ne {n : Nat} (h : n ≠ 0) : ∃ p, n.testBit p = true := Nat.exists_testBit_of_ne_zero h
/-- the word of a literal in the table over the inputs -/
noncomputable def lwd (nodes : List (Option (Nat × Nat))) (ins : List Nat) (l : Nat) : Nat := lit (wd nodes (tleaf ins) (ft ins.length) (l >>> 1)) l (ft ins.length)
theorem w_table_difference (ok : F.Ok) (hlv : F.lv < 35) {ln li : Addr} {on oi : Obj} {l r : Nat} {t1 t2 : Tok} {ws ins : List Nat} (ha : AgIn F.w A D nodes inputs) (hn : (ln, on) ∈ D) (hni : IL on ws) (hi : (li, oi) ∈ D) (hii : IL oi ins) (hC : Cone nodes l r ws)
    (hz : nodes.length < 64) (h0 : nodes.getD 0 none = none) (hk : ins.length ≤ 4) (hnd : ins.Nodup) (hin : ∀ k, k ∈ ins ↔ k ∈ ws ∧ nodes.getD k none = none)
    (h1 : lwd nodes ins l = lwd nodes ins r → Q .none vs D)
    (h2 : ∀ d o kvs row, (lwd nodes ins l ^^^ lwd nodes ins r).testBit row = true → DI F.w o kvs → PD kvs (rowbit ins row) (fun k => k ∈ ins) → kvs.length ≤ ins.length → Q (.ref d) vs ((d, o) :: D)) : HT F vs D (call (.ref 373) [.ref A.g, VN l t1, VN r t2, .ref ln, .ref li]) Q := by
  refine callP_ ok k_table_difference (ps := [Str.ofString "aig", Str.ofString "left", Str.ofString "right", Str.ofString "nodes", Str.ofString "inputs"]) (ls := [Str.ofString "words", Str.ofString "full", Str.ofString "differ", Str.ofString "row", Str.ofString "bits", Str.ofString "i"]) rfl rfl rfl (by omega) ?_
  intro g L ok'
  show HT _ [some _, some _, some _, some _, some _, none, none, none, none, none, none] _ _ _
  refine execs_cons_ ?_
  repeat ktr_units
  refine w_cone_words (F := F.sub g L F.A d_table_difference 373) ok' (by show F.lv + 1 < 36; omega) ha hn hni hi hii hC hz h0 hk hnd hin fun dw ow kvs how hW => ?_
  repeat ktr_units
  refine len_il (by k_mem) hii (by omega) fun _ => ?_
  repeat ktr_units
  refine w_full_table ok' (by show F.lv + 1 < 40; omega) (by omega) fun tf => ?_
  repeat ktr_units
  obtain ⟨ta, ea⟩ := hW _ hC.hl
  obtain ⟨tb, eb⟩ := hW _ hC.hr
  refine w_literal_word ok' (by show F.lv + 1 < 40; omega) (.inr ⟨_, _, _, _, rfl, by k_mem, how, ea⟩) fun _ => ?_
  repeat ktr_units
  refine w_literal_word ok' (by show F.lv + 1 < 40; omega) (.inr ⟨_, _, _, _, rfl, by k_mem, how, eb⟩) fun _ => ?_
  repeat ktr_units
  refine bite (fun e => ?_) fun e => ?_
  · have e := of_decide_eq_true e
    refine HT.le (D' := D) ?_ (Le.of_sub (List.sublist_cons_self _ _))
    repeat ktr_units
    exact h1 (xor_zero e)
  · have e := of_decide_eq_false e
    obtain ⟨p, hp⟩ := tb_of_ne e
    refine HT.le (D' := D) ?_ (Le.of_sub (List.sublist_cons_self _ _))
    repeat ktr_units
    refine w_low_bit ok' (by show F.lv + 1 < 40; omega) hp fun tr row hrow => ?_
    repeat ktr_units
    rename_i bd ob0 hbn hob0
    refine forR_ ok' (n := ins.length) (j := 10) rfl (by omega) (fun i vs' D' => ∃ u5 u6 u7 u10 o kvs, vs' = [some (.ref A.g), some (VN l t1), some (VN r t2), some (.ref ln), some (.ref li), u5, u6, u7, some (VN row tr), some (.ref bd), u10] ∧ D' = (bd, o) :: D ∧ DI F.w o kvs ∧ kvs.length ≤ i ∧ PD kvs (rowbit ins row) (fun k => k ∈ ins.take i)) ?_ ?_ ?_
    · repeat ktr_units
      refine len_il (by k_mem) hii (by omega) fun _ => ?_
      repeat ktr_units
      refine range1_ fun r t1 t2 hr => ?_
      exact ⟨_, _, _, _, _, rfl, rfl, _, _, _, _, ob0, [], rfl, rfl, hob0, by simp, fun k => ⟨fun hk => by simp at hk, fun _ => rfl⟩⟩
    · rintro i t _ _ E hil ⟨u5, u6, u7, u10, o, kvs, rfl, rfl, ho, hlen, hW⟩
      show HT _ [_, _, _, _, _, _, _, _, _, _, _] ((_, _) :: (D ++ E)) _ _
      have hget := getD_some hil
      have hidx : ins.idxOf (ins.getD i 0) = i := by
        have e : ins.getD i 0 = ins[i] := by simp [List.getD_eq_getElem?_getD, List.getElem?_eq_getElem hil]
        rw [e]
        exact hnd.idxOf_getElem i hil
      have hrb : row >>> i &&& 1 = rowbit ins row (ins.getD i 0) := by rw [rowbit, hidx]
      refine execs_cons_ ?_
      repeat ktr_units
      refine tail_il (by k_mem) hii hget (by omega) fun _ => ?_
      refine setItem_dz (F := F.sub g L F.A d_table_difference 373) ok' (by tb_start) ho (by simp only [sizeLine]; omega) fun o' ho' => ?_
      repeat ktr_units
      rw [hrb] at ho'
      refine ⟨_, rfl, _, _, _, _, o', _, rfl, rfl, ho', Nat.le_trans (stored_le _ _ _) (by omega), hW.put.iff fun k => ?_⟩
      rw [List.take_add_one, hget, List.mem_append]
      simp [or_comm]
    · rintro _ _ ⟨u5, u6, u7, u10, o, kvs, rfl, rfl, ho, hlen, hW⟩
      rw [List.take_length] at hW
      repeat ktr_units
      exact h2 bd o kvs row hrow ho hW hlen
end
-- P2
theorem vt_bit : ∀ K ≤ 4, ∀ i < K, ∀ j < 16, j < 2 ^ K → (vt i K).testBit j = j.testBit i := by decide +kernel
theorem ft_bit : ∀ K ≤ 4, ∀ j < 16, (ft K).testBit j = decide (j < 2 ^ K) := by decide +kernel
theorem ft_lt (K j : Nat) (hK : K ≤ 4) (hj : (ft K).testBit j = true) : j < 2 ^ K := by
  have h1 : ft K < 2 ^ (2 ^ K) := by
    have : ∀ K ≤ 4, ft K < 2 ^ (2 ^ K) := by decide +kernel
    exact this K hK
  rcases Nat.lt_or_ge j (2 ^ K) with h | h
  · exact h
  · have := Nat.testBit_lt_two_pow (Nat.lt_of_lt_of_le h1 (Nat.pow_le_pow_right (by decide) h))
    rw [this] at hj; cases hj
theorem ft_bit' {K j : Nat} (hK : K ≤ 4) (hj : j < 2 ^ K) : (ft K).testBit j = true := by
  have : j < 16 := Nat.lt_of_lt_of_le hj (Nat.pow_le_pow_right (n := 2) (by decide) hK)
  rw [ft_bit K hK j this]; simpa using hj
/-- a number with given bits -/
theorem bits_ex (f : Nat → Bool) : ∀ K, ∃ j, j < 2 ^ K ∧ ∀ i < K, j.testBit i = f i
  | 0 => ⟨0, by simp, by simp⟩
  | K + 1 => by
    obtain ⟨j, hj, hb⟩ := bits_ex f K
    refine ⟨j + (f K).toNat * 2 ^ K, ?_, fun i hi => ?_⟩
    · rw [Nat.pow_succ]; cases f K <;> simp <;> omega
    · have hb1 : (f K).toNat < 2 := by cases f K <;> decide
      have e : j + (f K).toNat * 2 ^ K = 2 ^ K * (f K).toNat + j := by rw [Nat.mul_comm]; omega
      rw [e, Nat.testBit_two_pow_mul_add _ hj]
      split
      · rename_i h; exact hb i h
      · have : i = K := by omega
        subst this
        simp only [Nat.sub_self]
        cases f i <;> rfl
section
variable {nodes : List (Option (Nat × Nat))}
noncomputable def ClS (nodes : List (Option (Nat × Nat))) (ws : List Nat) : Prop := ∀ (k p q : Nat), k ∈ ws → nodes[k]? = some (some (p, q)) → (p >>> 1 = 0 ∨ p >>> 1 ∈ ws) ∧ (q >>> 1 = 0 ∨ q >>> 1 ∈ ws)
theorem tleaf_bit {ins : List Nat} (hk : ins.length ≤ 4) {j : Nat} (hj : j < 2 ^ ins.length) {k : Nat} (hm : k ∈ ins) : (tleaf ins k).testBit j = j.testBit (ins.idxOf k) := by
  have : j < 16 := Nat.lt_of_lt_of_le hj (Nat.pow_le_pow_right (n := 2) (by decide) hk)
  rw [tleaf, if_pos hm]
  exact vt_bit _ hk _ (List.idxOf_lt_length_of_mem hm) j this hj
theorem lwd_bit (hw : WfN nodes) {ins : List Nat} (hk : ins.length ≤ 4) {j : Nat} (hj : j < 2 ^ ins.length) (l : Nat) : (lwd nodes ins l).testBit j = bl' nodes (fun k => (tleaf ins k).testBit j) l := by
  have hf := ft_bit' hk hj
  rw [lwd, lit_bit, wd_bit hw _ _ _ hf, hf, Bool.and_true, bl']
theorem lwd_hi {ins : List Nat} (hk : ins.length ≤ 4) {j : Nat} (hw : WfN nodes) (l r : Nat) (hj : (lwd nodes ins l ^^^ lwd nodes ins r).testBit j = true) : j < 2 ^ ins.length := by
  have hlt : ∀ k, wd nodes (tleaf ins) (ft ins.length) k < 2 ^ (2 ^ ins.length) := by
    have hft : ∀ K ≤ 4, ft K < 2 ^ (2 ^ K) := by decide +kernel
    have hvt : ∀ K ≤ 4, ∀ i < K, vt i K < 2 ^ (2 ^ K) := by decide +kernel
    intro k
    induction k using Nat.strongRecOn with
    | ind k ih =>
      cases e : nodes.getD k none with
      | none =>
        rw [wd_none e, tleaf]
        split
        · rename_i hm; exact hvt _ hk _ (List.idxOf_lt_length_of_mem hm)
        · exact Nat.two_pow_pos _
      | some p =>
        obtain ⟨p, q⟩ := p
        have e' := getD_pair e
        obtain ⟨h1, h2⟩ := hw k p q e'
        rw [wd_some hw e']
        refine Nat.lt_of_le_of_lt Nat.and_le_left ?_
        unfold lit
        split
        · exact Nat.xor_lt_two_pow (ih _ h1) (hft _ hk)
        · exact ih _ h1
  have hl : ∀ l, lwd nodes ins l < 2 ^ (2 ^ ins.length) := fun l => by
    have hft : ∀ K ≤ 4, ft K < 2 ^ (2 ^ K) := by decide +kernel
    unfold lwd lit
    split
    · exact Nat.xor_lt_two_pow (hlt _) (hft _ hk)
    · exact hlt _
  rcases Nat.lt_or_ge j (2 ^ ins.length) with h | h
  · exact h
  · have := Nat.testBit_lt_two_pow (Nat.lt_of_lt_of_le (Nat.xor_lt_two_pow (hl l) (hl r)) (Nat.pow_le_pow_right (by decide) h))
    rw [this] at hj; cases hj
theorem bl_congr (hw : WfN nodes) {ws ins : List Nat} (hC : ClS nodes ws) (h0 : nodes.getD 0 none = none) (hin : ∀ k, k ∈ ins ↔ k ∈ ws ∧ nodes.getD k none = none) {f g : Nat → Bool} (hz : f 0 = g 0) (hfg : ∀ k ∈ ins, f k = g k) {l : Nat} (hl : l >>> 1 = 0 ∨ l >>> 1 ∈ ws) : bl' nodes f l = bl' nodes g l := by
  have h00 : ∀ p q, nodes[0]? ≠ some (some (p, q)) := fun p q e => by
    rw [List.getD_eq_getElem?_getD, e] at h0; cases h0
  have := bv_congr hw (S := fun k => k = 0 ∨ k ∈ ws) (f := f) (g := g) (fun k p q hk e => by
    rcases hk with rfl | hk
    · exact (h00 _ _ e).elim
    · exact hC k p q hk e) (fun k hk e => by
    rcases hk with rfl | hk
    · exact hz
    · exact hfg k ((hin k).mpr ⟨hk, e⟩)) (l >>> 1) hl
  rw [bl', bl', this]
/-- equal tables: equal under every assignment -/
theorem same_all (hw : WfN nodes) {ws ins : List Nat} (hC : ClS nodes ws) (h0 : nodes.getD 0 none = none) (hin : ∀ k, k ∈ ins ↔ k ∈ ws ∧ nodes.getD k none = none) (h0i : 0 ∉ ins) (hk : ins.length ≤ 4) {l r : Nat} (hl : l >>> 1 = 0 ∨ l >>> 1 ∈ ws) (hr : r >>> 1 = 0 ∨ r >>> 1 ∈ ws) (he : lwd nodes ins l = lwd nodes ins r) (leaf : Nat → Bool) (hz : leaf 0 = false) : bl' nodes leaf l = bl' nodes leaf r := by
  obtain ⟨j, hj, hb⟩ := bits_ex (fun i => leaf (ins.getD i 0)) ins.length
  have hf : ∀ k ∈ ins, leaf k = (tleaf ins k).testBit j := fun k hm => by
    have hi := List.idxOf_lt_length_of_mem hm
    rw [tleaf_bit hk hj hm, hb _ hi]
    simp [List.getD_eq_getElem?_getD, List.getElem?_eq_getElem hi]
  have z : leaf 0 = (tleaf ins 0).testBit j := by rw [hz, tleaf, if_neg h0i]; simp
  rw [bl_congr hw hC h0 hin (g := fun k => (tleaf ins k).testBit j) z hf hl, bl_congr hw hC h0 hin (g := fun k => (tleaf ins k).testBit j) z hf hr, ← lwd_bit hw hk hj, ← lwd_bit hw hk hj, he]
/-- a row that differs: an assignment that parts -/
theorem part_row (hw : WfN nodes) {ws ins : List Nat} (hC : ClS nodes ws) (h0 : nodes.getD 0 none = none) (hin : ∀ k, k ∈ ins ↔ k ∈ ws ∧ nodes.getD k none = none) (h0i : 0 ∉ ins) (hk : ins.length ≤ 4) {l r row : Nat} (hl : l >>> 1 = 0 ∨ l >>> 1 ∈ ws) (hr : r >>> 1 = 0 ∨ r >>> 1 ∈ ws) (hrow : (lwd nodes ins l ^^^ lwd nodes ins r).testBit row = true) (leaf : Nat → Bool) (hz : leaf 0 = false) (hlf : ∀ k ∈ ins, leaf k = decide (rowbit ins row k = 1)) : bl' nodes leaf l ≠ bl' nodes leaf r := by
  have hj := lwd_hi hk hw l r hrow
  have hf : ∀ k ∈ ins, leaf k = (tleaf ins k).testBit row := fun k hm => by
    rw [tleaf_bit hk hj hm, hlf k hm, rowbit]
    have e : row >>> ins.idxOf k &&& 1 = (row.testBit (ins.idxOf k)).toNat := by
      rw [Nat.and_one_is_mod, Nat.testBit_eq_decide_div_mod_eq, Nat.shiftRight_eq_div_pow]
      rcases Nat.mod_two_eq_zero_or_one (row / 2 ^ ins.idxOf k) with h | h <;> simp [h]
    rw [e]
    cases row.testBit (ins.idxOf k) <;> rfl
  have z : leaf 0 = (tleaf ins 0).testBit row := by rw [hz, tleaf, if_neg h0i]; simp
  rw [bl_congr hw hC h0 hin (g := fun k => (tleaf ins k).testBit row) z hf hl, bl_congr hw hC h0 hin (g := fun k => (tleaf ins k).testBit row) z hf hr, ← lwd_bit hw hk hj, ← lwd_bit hw hk hj]
  rw [Nat.testBit_xor] at hrow
  intro e
  rw [e] at hrow
  simp at hrow
end
-- W12
@[reducible] noncomputable def d_cone_inputs : Dfn := ⟨Str.ofString "cone_inputs", Str.ofString "cone_inputs", prm (stAt 24), bod (stAt 24), scp (stAt 24), .none, .str (Str.ofString "gateloom.equiv") 657, .ref 358, [Str.ofString "nodes"]⟩
theorem ci_look (P : Params) : (KK P).lookup 359 = some ⟨.type "function", none, .func d_cone_inputs.fn, #[]⟩ := by kernel_rfl
theorem ci_code (P : Params) : codeIn (KK P) d_cone_inputs.cdv d_cone_inputs.qual = true := by kernel_rfl
/-- a frame with cells -/
@[reducible] noncomputable def Fx.subC (F : Fx) (g : Heap) (L : Addr) (A : Around) (d : Dfn) (f : Addr) : Fx :=
  { w := F.w, g := g, L := L, A := A.deeper (envX d.qual d.scope L f d.cdv (cellsFrom (L + 1) d.scope.names [])), A₀ := A, base := F.base, outer := F.env :: F.outer, qual := d.qual, scope := d.scope, f := f, cd := d.cdv, xs := d.xs, gens := F.gens, os := F.os, dr := F.dr, lv := F.lv + 1, cl := cellsFrom (L + 1) d.scope.names [] }
theorem ci_nd : d_cone_inputs.xs.Nodup := by decide +kernel
theorem ci_loc : ∀ x ∈ d_cone_inputs.xs, d_cone_inputs.scope.names.lookup x = some .local := by decide +kernel
noncomputable abbrev ciScope : Scope := { kind := .function, names := [(Str.ofString ".0", .local), (Str.ofString "node", .local), (Str.ofString "aig", .free)], isGenerator := false, isCoroutine := false }
theorem ci_cells (n : Nat) : cellsFrom n d_cone_inputs.scope.names [] = [(Str.ofString "aig", n)] := by kernel_rfl
section
variable {F : Fx} {vs : List (Option Value)} {D D' R : Led}
variable {Q : Value → List (Option Value) → Led → Prop}
variable {nodes : List (Option (Nat × Nat))} {inputs : List Nat} {A : Ag}
theorem off1_mem {D : Addr} : ∀ {l : Led}, LCg.Off1 D l → ∀ p ∈ l, p.1 ≠ D
  | [], _, _, h => nomatch h
  | _ :: _, x, p, h => by
    rcases List.mem_cons.mp h with rfl | h
    · exact x.1
    · exact off1_mem x.2 p h
theorem shared_eq {s t : Shared} (h1 : s.gens = t.gens) (h2 : s.drawn = t.drawn) (h3 : s.os = t.os) : s = { t with heap := s.heap, toks := s.toks } := by
  cases s; cases t; subst h1 h2 h3; rfl
theorem listCompT_ (ok : F.Ok) {ct elt iter : PySem.Expr} {x : Str} {px : Pos} {scope : Scope} {cl : List (Str × Addr)} {pos : Pos} {l : Addr} {ol : Obj} {ws : List Nat} {p : Nat → Bool}
    (hclos : closureFor scope F.env = pure cl) (hcell : ∀ y ∈ scope.names, y.2 ≠ .cell) (hkind : scope.kind = .function) (hnames : ∀ y ∈ scope.names, y.2 = .local → scope.names.lookup y.1 = some .local) (hx : scope.names.lookup x = some .local)
    (hiter : HT F vs D (eval iter F.env) fun v vs' D' => v = .ref l ∧ vs' = vs ∧ D' = D) (hm : (l, ol) ∈ D) (hi : IL ol ws) (hz : ws.length ≤ 1000)
    (test : ∀ I oI C oC Dd oD m₂ k t, LCg.NsObj oC m₂ → m₂ x = some (VN k t) → k ∈ ws → HT F vs ((I, oI) :: (C, oC) :: (Dd, oD) :: D) (PySem.isTrue ct (compEnvC scope cl C F.env) (eval ct (compEnvC scope cl C F.env))) fun b vs' D' => vs' = vs ∧ D' = (I, oI) :: (C, oC) :: (Dd, oD) :: D ∧ b = p k)
    (elm : ∀ I oI C oC Dd oD m₂ k t, LCg.NsObj oC m₂ → m₂ x = some (VN k t) → k ∈ ws → HT F vs ((I, oI) :: (C, oC) :: (Dd, oD) :: D) (eval elt (compEnvC scope cl C F.env)) fun v vs' D' => vs' = vs ∧ D' = (I, oI) :: (C, oC) :: (Dd, oD) :: D ∧ ∃ t', v = VN k t')
    (fin : ∀ a o, IL o (ws.filter p) → Q (.ref a) vs ((a, o) :: D)) (hs : ∀ x, foldedSetIterable iter F.env x = pure x := by intro _; rfl) : HT F vs D (eval (.ListComp elt [⟨.Name x px, iter, [ct], 0⟩] scope pos) F.env) Q := by
  intro s hs1
  refine LCt.ListComp_T hs1.fr hclos hcell hkind hnames hx ?_ hs
  refine hiter.use hs1 fun v s2 vs2 D2 h2 ⟨e1, e2, e3⟩ => ?_
  subst e1 e2 e3
  obtain ⟨its, n, hon, hna⟩ := hi
  subst hon
  have hil := hna.len
  refine LCt.CompSrcT.ledger ok.hd h2.fr h2.nw hm (by simp [sizeLine]; omega) fun g2 => ?_
  have main : ∀ k i ys, i + k = its.length → NA ys ((ws.take i).filter p) → LCt.CompRestT PySem.Challenge.pw_sj0059_01 F.w F.A F.g F.L (lay F.xs vs2) F.env ct elt x scope cl { s2 with heap := g2 } (LCg.SrcAt F.g l its.toArray) (fun i v => its.toArray[i]? = some v) (LCg.FinE F.g F.L (lay F.xs vs2) { s2 with heap := g2 } fun a s' => ∃ vs' D', St F vs' D' s' ∧ Q a vs' D') k i ys D2 := by
    intro k
    induction k with
    | zero =>
      intro i ys hi hy
      refine LCt.CompRestT.zero fun Dd h tk F' N' off => ?_
      have ei : ws.take i = ws := List.take_of_length_le (by omega)
      rw [ei] at hy
      refine ⟨vs2, (Dd, LCg.lst ys) :: D2, ⟨F', N', List.nodup_cons.mpr ⟨fun hm => ?_, h2.nd⟩, h2.ln, h2.gens, h2.os⟩, fin _ _ ⟨ys, _, rfl, hy⟩⟩
      obtain ⟨q, hq, e⟩ := List.mem_map.mp hm
      exact off1_mem off q hq e
    | succ k ih =>
      intro i ys hi hy
      refine LCt.CompRestT.succ fun v I oI C oC Dd m₂ h tk E' hv hC hmx F' N' off ne => ?_
      have hv : its[i]? = some v := by simpa using hv
      obtain ⟨kn, t, hkn, rfl⟩ := hna.of hv
      have hk : kn ∈ ws := List.mem_of_getElem? hkn
      have hst : St F vs2 ((I, oI) :: (C, oC) :: (Dd, LCg.lst ys) :: D2) { s2 with heap := h, toks := tk } := by
        refine ⟨F', N', ?_, h2.ln, h2.gens, h2.os⟩
        have off3 := off.mem
        refine List.nodup_cons.mpr ⟨fun hm => ?_, List.nodup_cons.mpr ⟨fun hm => ?_, List.nodup_cons.mpr ⟨fun hm => ?_, h2.nd⟩⟩⟩
        · rcases List.mem_cons.mp hm with e | hm
          · exact ne.1 e
          · rcases List.mem_cons.mp hm with e | hm
            · exact ne.2.1 e
            · obtain ⟨q, hq, e⟩ := List.mem_map.mp hm
              exact (off3 q hq).1 e
        · rcases List.mem_cons.mp hm with e | hm
          · exact ne.2.2 e
          · obtain ⟨q, hq, e⟩ := List.mem_map.mp hm
            exact (off3 q hq).2.1 e
        · obtain ⟨q, hq, e⟩ := List.mem_map.mp hm
          exact (off3 q hq).2.2 e
      have htk : (ws.take (i + 1)).filter p = (ws.take i).filter p ++ if p kn then [kn] else [] := by
        rw [List.take_add_one, hkn, List.filter_append]
        simp only [Option.toList_some, List.filter_cons, List.filter_nil]
      refine wpAny_mono (test I oI C oC Dd _ m₂ kn t hC hmx hk _ hst) (fun b s3 ⟨vs3, D3, h3, e1, e2, e3⟩ => ?_) fun _ _ x => x.elim
      subst e1 e2 e3
      cases hb : p kn with
      | true =>
        rw [if_pos rfl]
        rw [hb, if_pos rfl] at htk
        refine wpAny_mono (elm I oI C oC Dd _ m₂ kn t hC hmx hk _ h3) (fun y s4 ⟨vs4, D4, h4, e1, e2, t', e3⟩ => ?_) fun _ _ x => x.elim
        subst e1 e2 e3
        refine ⟨s4.heap, s4.toks, D2, ?_, h4.fr, h4.nw, off, .inr ⟨_, hm, rfl, _, rfl⟩, ih (i + 1) _ (by omega) (by rw [htk]; exact hy.snoc)⟩
        exact shared_eq (h4.gens.trans h2.gens.symm) (h4.os.2.trans h2.os.2.symm) (h4.os.1.trans h2.os.1.symm)
      | false =>
        rw [if_neg (by simp)]
        rw [hb, if_neg (by simp), List.append_nil] at htk
        refine ⟨s3.heap, s3.toks, D2, ?_, h3.fr, h3.nw, off, .inr ⟨_, hm, rfl, _, rfl⟩, ih (i + 1) _ (by omega) (by rw [htk]; exact hy)⟩
        exact shared_eq (h3.gens.trans h2.gens.symm) (h3.os.2.trans h2.os.2.symm) (h3.os.1.trans h2.os.1.symm)
  exact main its.length 0 [] (by omega) .nil
theorem w_cone_inputs (ok : F.Ok) (hlv : F.lv < 36) {ln : Addr} {on : Obj} {ws : List Nat} (ha : AgIn F.w A D nodes inputs) (hn : (ln, on) ∈ D) (hi : IL on ws) (hb : ∀ k ∈ ws, k < nodes.length) (hwn : ws.Nodup)
    (h : ∀ a o, IL o (ws.filter fun k => (nodes.getD k none).isNone) → Q (.ref a) vs ((a, o) :: D)) : HT F vs D (call (.ref 359) [.ref A.g, .ref ln]) Q := by
  intro s hs
  obtain ⟨mean, mg, mb, T⟩ := ok.T
  refine wpAny_call (callX_cells ok.B hs.fr hs.nw T.nolimit ok.fr rfl ok.kind (hs.fr.keep _ _ (ok.K _ _ (ci_look _))) rfl (codeRec_of (ok.K.keeps hs.fr.keep) (ci_code _)) (by have := ok.lvl; have := ok.dep; simp only [recursionLimit]; omega)
    (BindsTo.of_eq (binds := [(Str.ofString "aig", .ref A.g), (Str.ofString "nodes", .ref ln)]) rfl) ?_ ?_ (fun g L' h₁ tk cells FG F'' N' Y B' st hlt => ?_) (by kernel_rfl) (by kernel_rfl) (by kernel_rfl))
  · intro n x hx
    rcases List.mem_cons.mp hx with rfl | hx
    · refine .inr ⟨by kernel_rfl, ?_⟩
      rw [ci_cells]; rfl
    · rw [List.mem_singleton.mp hx]
      exact .inl (by kernel_rfl)
  · rw [ci_cells]; simp
  rw [ci_cells] at Y
  obtain ⟨oc, hoc, hod⟩ := Y.one
  subst hoc
  have hod : oc.data = .cell (some (.ref A.g)) := hod.trans (by congr 1)
  let F' : Fx := F.subC g L' F.A d_cone_inputs 359
  have ok' : F'.Ok := by
    refine ⟨ok.K.keeps st, ⟨mean, mg, mb, T.keeps st⟩, B', Around.frames_deeper ok.fr, ok.hd, by kernel_rfl, ?_, ?_, ?_, ci_nd, ci_loc⟩
    · have := ok.dep
      show F.A.depth + 1 ≤ 310 + 3 * (F.lv + 1)
      omega
    · have := ok.uni
      show F.A.units + 3 ≤ 20 + 10 * (F.lv + 1)
      omega
    · show F.lv + 1 ≤ 40
      omega
  have s0 : St F' [some (.ref ln)] ((L' + 1, oc) :: D) ⟨h₁, s.gens, s.drawn, tk, s.os⟩ := by
    refine ⟨?_, N', List.nodup_cons.mpr ⟨fun hm => ?_, hs.nd⟩, rfl, hs.gens, hs.os⟩
    · have e : (bindL (envOfC d_cone_inputs.qual d_cone_inputs.scope L' 359 d_cone_inputs.cdv).kindOf [(Str.ofString "aig", Value.ref A.g), (Str.ofString "nodes", .ref ln)] fun _ => none) = lay F'.xs [some (.ref ln)] := by
        funext y
        show (if y = Str.ofString "nodes" then some (Value.ref ln) else none) = _
        rfl
      exact e ▸ F''
    · obtain ⟨p, hp, e⟩ := List.mem_map.mp hm
      have := hlt p hp
      have e : p.1 = L' + 1 := e
      rw [e] at this
      exact Nat.lt_irrefl _ (Nat.lt_trans (Nat.lt_succ_self _) this)
  have hT : HT F' [some (.ref ln)] ((L' + 1, oc) :: D) (execs d_cone_inputs.body F'.env) fun fl _ D' => ∃ v D2, fl = .ret v ∧ Le D2 D' ∧ Q v vs D2 := by
    show HT _ [some _] _ _ _
    refine execs_cons_ ?_
    repeat ktr_units
    obtain ⟨its, n, hon, hna⟩ := hi
    have hwl : ws.length ≤ 1000 := Nat.le_trans (by simpa using hwn.length_le_of_subset (l₂ := List.range nodes.length) fun k hk => List.mem_range.mpr (hb k hk)) ha.sz
    refine listCompT_ ok' (cl := [(Str.ofString "aig", L' + 1)]) (ws := ws) (p := fun k => (nodes.getD k none).isNone) (by with_unfolding_all rfl) (by decide) rfl (by decide) rfl (local_ ok' .head ⟨rfl, rfl, rfl⟩) (.tail _ hn) ⟨its, n, hon, hna⟩ hwl (fun I oI C oC Dd oD m₂ k t hC hx hk => ?_) (fun I oI C oC Dd oD m₂ k t hC hx hk => ?_) fun a o ho => ?_
    · obtain ⟨p, hp⟩ : ∃ p, nodes[k]? = some p := ⟨_, List.getElem?_eq_getElem (hb k hk)⟩
      have hkd : nodes.getD k none = p := by rw [List.getD_eq_getElem?_getD, hp]; rfl
      intro s3 h3
      refine isTrue_not (isTrue_plain (he := rfl) ?_)
      refine methodCall_KW (kws := []) ?_ (by with_unfolding_all rfl)
      refine lcf_cell h3.nw (c := L' + 1) rfl (.tail _ (.tail _ (.tail _ (.head _)))) hod ?_ rfl rfl
      refine (ag_m_is_and (F := F') (D := (I, oI) :: (C, oC) :: (Dd, oD) :: (L' + 1, oc) :: D) ok' (.tail _ (.tail _ (.tail _ (.tail _ ha.g)))) (.tail _ (.tail _ (.tail _ (.tail _ ha.d)))) (Q := fun fx vs' D' => fx = (.ref 56, [.ref A.g]) ∧ vs' = [some (.ref ln)] ∧ D' = (I, oI) :: (C, oC) :: (Dd, oD) :: (L' + 1, oc) :: D) ⟨rfl, rfl, rfl⟩).use h3 fun fx s4 vs4 D4 h4 ⟨e1, e2, e3⟩ => ?_
      subst e1 e2 e3
      refine callWith_K (h₀ := F'.g) ok'.K (kp_56 _) ?_
      refine wpAny_items_cons (wpAny_Name (wpAny_loadName_local rfl rfl (hC.ns (h4.get (.tail _ (.head _)))) hx (wpAny_items_nil ?_)))
      refine ⟨ok'.K.keeps h4.fr.keep, ?_⟩
      refine (w_is_and (F := F') (nodes := nodes) (inputs := inputs) (A := A) ok' (by show F.lv + 1 < 40; omega) (ha.push.push.push.push) hp (Q := fun v vs' D' => v = .bool p.isSome ∧ vs' = [some (.ref ln)] ∧ D' = (I, oI) :: (C, oC) :: (Dd, oD) :: (L' + 1, oc) :: D) ⟨rfl, rfl, rfl⟩).use h4 fun v s5 vs5 D5 h5 ⟨e1, e2, e3⟩ => ?_
      subst e1 e2 e3
      exact wpAny_truthy_bool ⟨_, _, h5, rfl, rfl, by rw [hkd]; cases p <;> rfl⟩
    · intro s3 h3
      exact wpAny_Name (wpAny_loadName_local rfl rfl (hC.ns (h3.get (.tail _ (.head _)))) hx ⟨_, _, h3, rfl, rfl, t, rfl⟩)
    · exact ⟨_, (a, o) :: D, rfl, Le.of_sub ((List.sublist_cons_self _ _).cons_cons _), h a o ho⟩
  have e : envOfC d_cone_inputs.qual d_cone_inputs.scope L' 359 d_cone_inputs.cdv = F'.env := rfl
  refine wpAny_mono (hT _ s0) (fun fl s' ⟨vs', D', h1, v, D2, e1, hle, h2⟩ => ?_) fun _ _ x => x.elim
  subst e1
  exact ⟨_, _, _, h1.fr, fun p hp => h1.nw p (hle.1 p hp), fun FF NN => ⟨_, _, ⟨FF, NN, hle.2 h1.nd, hs.ln, h1.gens, h1.os⟩, h2⟩⟩
end
-- W13
section
variable {F : Fx} {vs : List (Option Value)} {D D' R : Led}
variable {Q : Value → List (Option Value) → Led → Prop}
variable {nodes : List (Option (Nat × Nat))} {inputs : List Nat} {A : Ag}
/-- what the graph has beside AgIn -/
structure Gr (nodes : List (Option (Nat × Nat))) : Prop where
  wf : WfN nodes
  h0 : nodes.getD 0 none = none
  sz : nodes.length < 64
  pos : ∀ (k p q : Nat), nodes[k]? = some (some (p, q)) → 0 < p >>> 1 ∧ 0 < q >>> 1
  ins : ∀ ins : List Nat, ins.Nodup → (∀ k ∈ ins, 0 < k ∧ k < nodes.length ∧ nodes.getD k none = none) → ins.length ≤ 4
theorem cone_leaf (hG : Gr nodes) {l r : Nat} {ws : List Nat} (hC : Cone nodes l r ws) (h0 : 0 < l >>> 1) : ∃ k, k ∈ ws ∧ nodes.getD k none = none := by
  have go : ∀ k, k ∈ ws → ∃ k, k ∈ ws ∧ nodes.getD k none = none := by
    intro k
    induction k using Nat.strongRecOn with
    | ind k ih =>
      intro hk
      cases e : nodes.getD k none with
      | none => exact ⟨k, hk, e⟩
      | some p =>
        obtain ⟨p, q⟩ := p
        have e' := getD_pair e
        exact ih _ (hG.wf _ _ _ e').1 ((hC.cl _ _ _ hk e').1.resolve_left (by have := (hG.pos _ _ _ e').1; omega))
  exact go _ (hC.hl.resolve_left (by omega))
theorem w_parting (ok : F.Ok) (hlv : F.lv < 34) {l r c : Nat} {t1 t2 t3 : Tok} (ha : AgIn F.w A D nodes inputs) (hG : Gr nodes) (hl : l >>> 1 < nodes.length) (hr : r >>> 1 < nodes.length) (hl0 : 0 < l >>> 1)
    (h1 : (∀ leaf : Nat → Bool, leaf 0 = false → bl' nodes leaf l = bl' nodes leaf r) → ∀ d o, DI F.w o [] → Q (.ref d) vs ((d, o) :: D))
    (h2 : ∀ d o kvs bs, DI F.w o kvs → BD kvs bs → 0 < kvs.length → kvs.length ≤ 4 → bs 0 = 0 → bl' nodes (fun k => decide (bs k = 1)) l ≠ bl' nodes (fun k => decide (bs k = 1)) r → Q (.ref d) vs ((d, o) :: D)) : HT F vs D (call (.ref 457) [.ref A.g, VN l t1, VN r t2, VN c t3]) Q := by
  refine callP_ ok k_parting (ps := [Str.ofString "aig", Str.ofString "left", Str.ofString "right", Str.ofString "conflicts"]) (ls := [Str.ofString "nodes", Str.ofString "inputs", Str.ofString "bits"]) rfl rfl rfl (by omega) ?_
  intro g L ok'
  show HT _ [some _, some _, some _, some _, none, none, none] _ _ _
  refine execs_cons_ ?_
  repeat ktr_units
  rename_i tp htp
  refine w_cone_nodes (F := F.sub g L F.A d_parting 457) (nodes := nodes) (inputs := inputs) (A := A) (b := tp) (l := l) (r := r) (t1 := t1) (t2 := t2) ok' (by show F.lv + 1 < 38; omega) ha.push (by k_mem) hl hr hG.sz hl0 fun na no ws hno hC => ?_
  repeat ktr_units
  refine w_cone_inputs (F := F.sub g L F.A d_parting 457) (nodes := nodes) (inputs := inputs) (A := A) ok' (by show F.lv + 1 < 36; omega) ha.push.push (by k_mem) hno (fun k hk => (hC.pos k hk).2) (hC.srt.imp fun h => Nat.ne_of_lt h) fun ia io hio => ?_
  have hin : ∀ k, k ∈ ws.filter (fun k => (nodes.getD k none).isNone) ↔ k ∈ ws ∧ nodes.getD k none = none := fun k => by
    rw [List.mem_filter, Option.isNone_iff_eq_none]
  have hnd : (ws.filter fun k => (nodes.getD k none).isNone).Nodup := ((hC.srt.imp fun h => Nat.ne_of_lt h).filter _)
  have hlen := hG.ins _ hnd fun k hk => ⟨(hC.pos k ((hin k).mp hk).1).1, (hC.pos k ((hin k).mp hk).1).2, ((hin k).mp hk).2⟩
  have hpos : 0 < (ws.filter fun k => (nodes.getD k none).isNone).length := by
    obtain ⟨k, hk⟩ := cone_leaf hG hC hl0
    exact List.length_pos_of_mem ((hin k).mpr hk)
  have h0i : 0 ∉ ws.filter fun k => (nodes.getD k none).isNone := fun hm => by have := (hC.pos 0 ((hin 0).mp hm).1).1; omega
  generalize ws.filter (fun k => (nodes.getD k none).isNone) = ins at *
  repeat ktr_units
  refine len_il (by k_mem) hio (by omega) fun _ => ?_
  repeat ktr_units
  refine leN_ (b := 6) ?_
  repeat ktr_units
  refine bite (fun _ => ?_) fun e => by have := of_decide_eq_false e; omega
  repeat ktr_units
  have ha3 : AgIn F.w A ((ia, io) :: (na, no) :: (tp, tupOf [VN l t1, VN r t2]) :: D) nodes inputs := ha.push.push.push
  refine w_table_difference (F := F.sub g L F.A d_parting 457) (nodes := nodes) (inputs := inputs) (A := A) (l := l) (r := r) ok' (by show F.lv + 1 < 35; omega) ha3 (by k_mem) hno (by k_mem) hio hC hG.sz hG.h0 hlen hnd hin (fun he => ?_) fun d o kvs row hrow hd hP hkl => ?_
  · repeat ktr_units
    refine bite (fun _ => ?_) fun e => by cases e
    refine HT.le (D' := D) ?_ (Le.of_sub ((((List.Sublist.refl D).cons _).cons _).cons _))
    repeat ktr_units
    rename_i d o hdn hd
    exact h1 (fun leaf hz => same_all hG.wf hC.cl hG.h0 hin h0i hlen hC.hl hC.hr he leaf hz) d o hd
  · repeat ktr_units
    refine bite (fun e => by cases e) fun _ => ?_
    refine HT.le (D' := (d, o) :: D) ?_ (Le.of_sub (((((List.Sublist.refl D).cons _).cons _).cons _).cons_cons _))
    repeat ktr_units
    have hb1 : ∀ k, rowbit ins row k ≤ 1 := fun k => by rw [rowbit, Nat.and_one_is_mod]; omega
    refine h2 d o kvs (fun k => if k ∈ ins then rowbit ins row k else 0) hd (fun k => ?_) ?_ (by omega) (by simp only [if_neg h0i]) (part_row hG.wf hC.cl hG.h0 hin h0i hlen hC.hl hC.hr hrow _ (by simp only [if_neg h0i]; rfl) fun k hk => by simp only [if_pos hk])
    · by_cases hk : k ∈ ins
      · simp only [if_pos hk]
        exact ⟨hb1 k, .inr ((hP k).1 hk)⟩
      · simp only [if_neg hk]
        exact ⟨by omega, .inl ⟨(hP k).2 hk, trivial⟩⟩
    · cases kvs with
      | nil =>
        obtain ⟨k, hk⟩ := List.exists_mem_of_length_pos hpos
        obtain ⟨t, ht⟩ := (hP k).1 hk
        cases ht
      | cons => simp
end
-- W14
section
variable {F : Fx} {vs : List (Option Value)} {D D' R : Led}
variable {Q : Value → List (Option Value) → Led → Prop}
variable {nodes : List (Option (Nat × Nat))} {inputs : List Nat} {A : Ag}
theorem negN_ {n : Nat} {t : Tok} (h : ∀ t', Q (.int (-(n : Int)) t') vs D) : HT F vs D (unaryOp .USub (VN n t)) Q := fun s hs => PySem.P.neg_int ⟨_, _, hs.tok, h _⟩
/-- the first kept node of the class -/
noncomputable def cand (P : Sd) (node : Nat) : Int := match clsOf P.gs (nrm (P.vals.getD node 0) P.c) with
  | some (k :: _) => (k : Int)
  | _ => -1
theorem w_next_candidate (ok : F.Ok) (hlv : F.lv < 37) {x : Addr} {S : Sg} {P : Sd} {k : Nat} {t1 : Tok} {rd : Addr} {ro : Obj} (hS : S.Is F.w P) (hk : k < P.vals.length) (hr : (rd, ro) ∈ R) (hro : DI F.w ro [])
    (h : ∀ t, Q (.int (cand P k) t) vs (S.led F.w A x R)) : HT F vs (S.led F.w A x R) (call (.ref 464) [.ref x, VN k t1, .ref rd]) Q := by
  have hc := hS.c
  have hc' := hS.hc
  have hlv' := hS.lv
  obtain ⟨js, hd, hC, hj⟩ := hS.C
  refine callP_ ok k_next_candidate (ps := [Str.ofString "signatures", Str.ofString "node", Str.ofString "refused"]) (ls := [Str.ofString "other"]) rfl rfl rfl (by omega) ?_
  intro g L ok'
  show HT _ [some _, some _, some _, none] ((_, _) :: _) _ _
  refine execs_cons_ ?_
  have key : ∃ ws, (cand P k = -1 ∧ ws = ([] : List Nat) ∨ ∃ n rest, ws = n :: rest ∧ cand P k = (n : Int)) ∧ (∀ a oE, IL oE [] → ∃ b ob, (valueAt (jk js) ((nrm (P.vals.getD k 0) S.c : Nat) : Int)).getD (.ref a) = .ref b ∧ IL ob ws ∧ (b, ob) ∈ ((a, oE) :: S.led F.w A x R)) := by
    refine ⟨(clsOf P.gs (nrm (P.vals.getD k 0) P.c)).getD [], ?_, fun a oE hE => ?_⟩
    · unfold cand
      cases clsOf P.gs (nrm (P.vals.getD k 0) P.c) with
      | none => exact .inl ⟨rfl, rfl⟩
      | some l => cases l with
        | nil => exact .inl ⟨rfl, rfl⟩
        | cons n rest => exact .inr ⟨n, rest, rfl, rfl⟩
    · cases hv : valueAt (jk js) ((nrm (P.vals.getD k 0) S.c : Nat) : Int) with
      | none =>
        obtain ⟨e0, _, _⟩ := hj.miss (x := 0) hv
        rw [hc] at e0
        rw [e0]
        exact ⟨a, oE, rfl, hE, .head _⟩
      | some v =>
        obtain ⟨b, o, ws, f, rfl, h1, h0, h2, _⟩ := hj.hit (x := 0) (R := R) hv
        rw [hc] at h0
        rw [h0]
        refine ⟨b, o, rfl, h1, ?_⟩
        have := h2.mem
        rw [← hC] at this
        simp only [Sg.led, List.mem_cons]
        simp only [this, or_true]
  obtain ⟨ws, hcand, hget⟩ := key
  refine forE_ ok' (j := 3) rfl ?_
  repeat ktr_units
  refine sg_get_classes ok' (by k_mem) (by k_mem) rfl ?_
  refine dget_m (by k_mem) hd ?_
  repeat ktr_units
  refine sg_m_normal ok' (by k_mem) (by k_mem) ?_
  repeat ktr_units
  refine w_normal ok' (by show F.lv + 1 < 39; omega) (by k_mem) (by k_mem) (by k_mem) hS.V (getD_some hk) (by omega) (by omega) fun _ => ?_
  repeat ktr_units
  rename_i tq ea hea
  refine dget2_ (F := F.sub g L F.A d_next_candidate 464) ok' (by k_mem) hd ?_
  obtain ⟨b, ob, e1, e2, e3⟩ := hget ea _ ⟨[], 0, rfl, .nil⟩
  refine ⟨b, ob, ws, fun i vs' D' => i = 0 ∧ vs' = [some (.ref x), some (VN k t1), some (.ref rd), none] ∧ D' = (ea, W.listOf #[] 0) :: S.led F.w A x R, e1, e2, ⟨rfl, rfl, rfl⟩, ?_, ?_, ?_⟩
  · rintro i _ _ ⟨rfl, rfl, rfl⟩
    exact e3
  · rintro i n t _ _ E hin ⟨rfl, rfl, rfl⟩
    show HT _ [_, _, _, _] (((_, _) :: S.led F.w A x R) ++ E) _ _
    refine execs_cons_ ?_
    repeat ktr_units
    refine notIn_d (F := F.sub g L F.A d_next_candidate 464) (d := rd) (o := ro) (kvs := []) ok' (List.mem_append.mpr (.inl (by simp [Sg.led, hr]))) hro ?_
    repeat ktr_units
    refine bite (fun _ => ?_) fun e => by cases e
    refine HT.le (D' := S.led F.w A x R ++ E) ?_ (Le.of_sub (List.sublist_cons_self _ _))
    repeat ktr_units
    refine ⟨_, rfl, ?_⟩
    rcases hcand with ⟨_, rfl⟩ | ⟨m, rest, rfl, ec⟩
    · cases hin
    · cases hin
      have := h t
      rw [ec] at this
      exact this
  · rintro _ _ ⟨e, rfl, rfl⟩
    rcases hcand with ⟨ec, rfl⟩ | ⟨m, rest, rfl, ec⟩
    · refine HT.le (D' := S.led F.w A x R) ?_ (Le.of_sub (List.sublist_cons_self _ _))
      repeat ktr_units
      refine Unary_ ?_
      repeat ktr_units
      refine negN_ fun t => ?_
      have := h t
      rw [ec] at this
      exact this
    · cases e
end
-- P3
theorem two_pow_sub_bit (c j : Nat) : (1 <<< c - 1).testBit j = decide (j < c) := by
  rw [Nat.shiftLeft_eq, Nat.one_mul, Nat.testBit_two_pow_sub_one]
theorem mask_lt (c : Nat) : 1 <<< c - 1 < 2 ^ c := by
  rw [Nat.shiftLeft_eq, Nat.one_mul]; have := Nat.two_pow_pos c; omega
theorem and_one_bit (w : Nat) : (w &&& 1 = 1) ↔ w.testBit 0 = true := by
  rw [Nat.and_one_is_mod, Nat.testBit_zero]; simp
theorem nrm_lt {w c : Nat} (h : w < 2 ^ c) : nrm w c < 2 ^ c := by
  unfold nrm
  split
  · exact Nat.xor_lt_two_pow h (mask_lt c)
  · exact h
theorem nrm_bit {w c j : Nat} (hj : j < c) : (nrm w c).testBit j = (w.testBit j ^^ w.testBit 0) := by
  unfold nrm
  by_cases h : w &&& 1 = 1
  · rw [if_pos h, Nat.testBit_xor, two_pow_sub_bit, (and_one_bit w).mp h]; simp [hj]
  · rw [if_neg h]
    have : w.testBit 0 = false := by
      cases e : w.testBit 0 with
      | false => rfl
      | true => exact (h ((and_one_bit w).mpr e)).elim
    rw [this, Bool.xor_false]
theorem eq_of_bits {a b c : Nat} (ha : a < 2 ^ c) (hb : b < 2 ^ c) (h : ∀ j < c, a.testBit j = b.testBit j) : a = b := by
  refine Nat.eq_of_testBit_eq fun j => ?_
  by_cases hj : j < c
  · exact h j hj
  · have hp : 2 ^ c ≤ 2 ^ j := Nat.pow_le_pow_right (by decide) (by omega)
    rw [Nat.testBit_lt_two_pow (Nat.lt_of_lt_of_le ha hp), Nat.testBit_lt_two_pow (Nat.lt_of_lt_of_le hb hp)]
theorem nrm_eq {a b c : Nat} (ha : a < 2 ^ c) (hb : b < 2 ^ c) : nrm a c = nrm b c ↔ ∀ j < c, (a.testBit j ^^ a.testBit 0) = (b.testBit j ^^ b.testBit 0) :=
  ⟨fun h j hj => by rw [← nrm_bit hj, ← nrm_bit hj, h], fun h => eq_of_bits (nrm_lt ha) (nrm_lt hb) fun j hj => by rw [nrm_bit hj, nrm_bit hj, h j hj]⟩
/-- the class of a key: the kept nodes of that normal word -/
theorem clsw_of (vals : List Nat) (c : Nat) (kept : List Nat) (k : Nat) : clsOf (clsw vals c kept) k = (if kept.filter (fun x => nrm (vals.getD x 0) c = k) = [] then none else some (kept.filter (fun x => nrm (vals.getD x 0) c = k))) := by
  rw [← kept.reverse_reverse]
  induction kept.reverse with
  | nil => simp [clsw, clsOf]
  | cons x l ih =>
    rw [List.reverse_cons, clsw_snoc, clsOf_addg, List.filter_append]
    by_cases e : k = nrm (vals.getD x 0) c
    · subst e
      rw [if_pos rfl, ih]
      simp only [List.filter_cons, decide_true, if_true, List.filter_nil]
      generalize List.filter (fun y => decide (nrm (vals.getD y 0) c = nrm (vals.getD x 0) c)) l.reverse = fl
      cases fl <;> simp
    · rw [if_neg e, ih]
      have : decide (nrm (vals.getD x 0) c = k) = false := by simpa using Ne.symm e
      simp only [List.filter_cons, this, Bool.false_eq_true, if_false, List.filter_nil, List.append_nil]
theorem cand_some {P : Sd} {node : Nat} (hg : P.gs = clsw P.vals P.c P.kept) : (cand P node = -1 ∧ ∀ k ∈ P.kept, nrm (P.vals.getD k 0) P.c ≠ nrm (P.vals.getD node 0) P.c) ∨ ∃ k, k ∈ P.kept ∧ cand P node = (k : Int) ∧ nrm (P.vals.getD k 0) P.c = nrm (P.vals.getD node 0) P.c := by
  unfold cand
  rw [hg, clsw_of]
  cases e : P.kept.filter (fun x => nrm (P.vals.getD x 0) P.c = nrm (P.vals.getD node 0) P.c) with
  | nil =>
    refine .inl ⟨by simp, fun k hk h => ?_⟩
    have : k ∈ P.kept.filter (fun x => nrm (P.vals.getD x 0) P.c = nrm (P.vals.getD node 0) P.c) := List.mem_filter.mpr ⟨hk, by simpa using h⟩
    rw [e] at this; cases this
  | cons k rest =>
    have hm : k ∈ P.kept.filter (fun x => nrm (P.vals.getD x 0) P.c = nrm (P.vals.getD node 0) P.c) := by rw [e]; exact .head _
    obtain ⟨h1, h2⟩ := List.mem_filter.mp hm
    exact .inr ⟨k, h1, by simp, by simpa using h2⟩
-- P4
theorem getD_set (f : List Nat) (i k v : Nat) : (f.set i v).getD k 0 = if k = i ∧ i < f.length then v else f.getD k 0 := by
  rw [List.getD_eq_getElem?_getD, List.getD_eq_getElem?_getD, List.getElem?_set]
  by_cases e : i = k
  · subst e
    by_cases h : i < f.length
    · simp [h]
    · simp [h]
  · simp [e, Ne.symm e]
theorem vi_get {inputs words f : List Nat} {m : Nat} (nd : inputs.Nodup) (hlt : ∀ i ∈ inputs, i < f.length) : ∀ K ≤ inputs.length, ∀ k, (vi inputs words m K f).getD k 0 = if k ∈ inputs.take K then words.getD (inputs.idxOf k) 0 &&& m else f.getD k 0
  | 0, _, k => by simp [vi]
  | K + 1, hK, k => by
    have hget := getD_some (ws := inputs) (k := K) (by omega)
    have hm : inputs.getD K 0 ∈ inputs := List.mem_of_getElem? hget
    have hidx : inputs.idxOf (inputs.getD K 0) = K := by
      have e : inputs.getD K 0 = inputs[K] := by simp [List.getD_eq_getElem?_getD, List.getElem?_eq_getElem (show K < inputs.length by omega)]
      rw [e]
      exact nd.idxOf_getElem K _
    rw [vi, getD_set, vi_len, vi_get nd hlt K (by omega) k]
    by_cases e : k = inputs.getD K 0
    · rw [if_pos ⟨e, hlt _ hm⟩, if_pos (by rw [List.take_add_one, hget, e]; simp), e, hidx]
    · rw [if_neg (fun h => e h.1)]
      have : (k ∈ inputs.take (K + 1)) ↔ k ∈ inputs.take K := by
        rw [List.take_add_one, hget, List.mem_append]
        exact ⟨fun h => h.resolve_right (fun h => e (by simpa using h)), .inl⟩
      simp only [this]
theorem vn_get {nodes : List (Option (Nat × Nat))} (hw : WfN nodes) {f : List Nat} {m : Nat} (hf : f.length = nodes.length) : ∀ K ≤ nodes.length, ∀ k, (vn nodes m K f).getD k 0 = if k < K then wd nodes (fun i => f.getD i 0) m k else f.getD k 0
  | 0, _, k => by simp [vn]
  | K + 1, hK, k => by
    have ih := vn_get hw hf (m := m) K (by omega)
    rw [vn]
    cases e : nodes.getD K none with
    | none =>
      simp only
      rw [ih]
      by_cases e2 : k = K
      · subst e2; rw [if_neg (by omega), if_pos (by omega), wd_none e]
      · by_cases h : k < K
        · rw [if_pos h, if_pos (by omega)]
        · rw [if_neg h, if_neg (by omega)]
    | some p =>
      obtain ⟨l, r⟩ := p
      have e' := getD_pair e
      obtain ⟨h1, h2⟩ := hw _ _ _ e'
      simp only
      rw [getD_set, vn_len, hf]
      by_cases e2 : k = K
      · subst e2
        rw [if_pos ⟨rfl, by omega⟩, if_pos (by omega), wd_some hw e', andw, ih, ih, if_pos h1, if_pos h2]
      · rw [if_neg (fun h => e2 h.1), ih]
        by_cases h : k < K
        · rw [if_pos h, if_pos (by omega)]
        · rw [if_neg h, if_neg (by omega)]
/-- the leaves' words that rows tell -/
noncomputable def rleaf (inputs rows : List Nat) (m k : Nat) : Nat := if k ∈ inputs then rows.getD (inputs.idxOf k) 0 &&& m else 0
theorem valw_get {nodes : List (Option (Nat × Nat))} (hw : WfN nodes) {inputs rows : List Nat} {m : Nat} (nd : inputs.Nodup) (hlt : ∀ i ∈ inputs, i < nodes.length) {k : Nat} (hk : k < nodes.length) : (valw nodes inputs rows m).getD k 0 = wd nodes (rleaf inputs rows m) m k := by
  rw [valw, vn_get hw (by rw [vi_len]; simp) _ (Nat.le_refl _), if_pos hk]
  congr 1
  funext i
  rw [vi_get nd (by simpa using hlt) _ (Nat.le_refl _), List.take_length, rleaf]
  split
  · rfl
  · simp [List.getD_eq_getElem?_getD, List.getElem?_replicate]
    split <;> rfl
theorem wd_lt {nodes : List (Option (Nat × Nat))} (hw : WfN nodes) {leaf : Nat → Nat} {m c : Nat} (hm : m < 2 ^ c) (hl : ∀ k, leaf k < 2 ^ c) : ∀ k, wd nodes leaf m k < 2 ^ c := by
  intro k
  induction k using Nat.strongRecOn with
  | ind k ih =>
    cases e : nodes.getD k none with
    | none => rw [wd_none e]; exact hl k
    | some p =>
      obtain ⟨l, r⟩ := p
      have e' := getD_pair e
      obtain ⟨h1, h2⟩ := hw _ _ _ e'
      rw [wd_some hw e']
      refine Nat.lt_of_le_of_lt Nat.and_le_left ?_
      unfold lit
      split
      · exact Nat.xor_lt_two_pow (ih _ h1) hm
      · exact ih _ h1
-- P5
noncomputable abbrev Pat := Nat → Bool
noncomputable def pat (pats : List Pat) (j : Nat) : Pat := pats.getD j (fun _ => false)
/-- what the signatures' data mean: bit j is the value under pattern j -/
structure Mng (nodes : List (Option (Nat × Nat))) (inputs : List Nat) (P : Sd) (pats : List Pat) : Prop where
  c : P.c = pats.length
  c1 : 0 < P.c
  rl : P.rows.length = inputs.length
  rb : ∀ i < inputs.length, ∀ j, (P.rows.getD i 0).testBit j = (decide (j < pats.length) && pat pats j (inputs.getD i 0))
  pz : ∀ j, ∀ k, k ∉ inputs → pat pats j k = false
  vl : P.vals.length = nodes.length
  vb : ∀ k < nodes.length, ∀ j, (P.vals.getD k 0).testBit j = (decide (j < pats.length) && bv nodes (pat pats j) k)
  gs : P.gs = clsw P.vals P.c P.kept
theorem fresh_sem {nodes : List (Option (Nat × Nat))} (hw : WfN nodes) {inputs : List Nat} (nd : inputs.Nodup) (hlt : ∀ i ∈ inputs, i < nodes.length) {P : Sd} {pats : List Pat} (c : P.c = pats.length) (c1 : 0 < P.c) (rl : P.rows.length = inputs.length)
    (rb : ∀ i < inputs.length, ∀ j, (P.rows.getD i 0).testBit j = (decide (j < pats.length) && pat pats j (inputs.getD i 0))) (pz : ∀ j, ∀ k, k ∉ inputs → pat pats j k = false) : Mng nodes inputs (P.fresh nodes inputs) pats := by
  refine ⟨c, c1, rl, rb, pz, by simp [Sd.fresh, valw_len], fun k hk j => ?_, rfl⟩
  show ((valw nodes inputs P.rows (1 <<< P.c - 1)).getD k 0).testBit j = _
  rw [valw_get hw nd hlt hk]
  by_cases hj : j < pats.length
  · rw [wd_bit hw _ _ _ (by rw [two_pow_sub_bit, c]; simpa using hj)]
    have : (fun i => (rleaf inputs P.rows (1 <<< P.c - 1) i).testBit j) = pat pats j := by
      funext i
      rw [rleaf]
      by_cases hi : i ∈ inputs
      · have hil := List.idxOf_lt_length_of_mem hi
        have e : inputs.getD (inputs.idxOf i) 0 = i := by
          simp [List.getD_eq_getElem?_getD, List.getElem?_eq_getElem hil]
        rw [if_pos hi, Nat.testBit_and, rb _ hil, two_pow_sub_bit, c, e]
        simp [hj]
      · rw [if_neg hi, pz _ _ hi]; simp
    rw [this]; simp [hj]
  · have hlf : ∀ k, rleaf inputs P.rows (1 <<< P.c - 1) k < 2 ^ P.c := fun k => by
      rw [rleaf]
      split
      · exact Nat.lt_of_le_of_lt Nat.and_le_right (mask_lt _)
      · exact Nat.two_pow_pos _
    rw [Nat.testBit_lt_two_pow (Nat.lt_of_lt_of_le (wd_lt hw (mask_lt _) hlf k) (Nat.pow_le_pow_right (by decide) (by omega)))]
    simp [hj]
theorem rowsw_get {inputs : List Nat} {bs : Nat → Nat} {c : Nat} {f : List Nat} : ∀ K ≤ f.length, ∀ k, (rowsw inputs bs c K f).getD k 0 = if k < K then f.getD k 0 ||| bs (inputs.getD k 0) <<< c else f.getD k 0
  | 0, _, k => by simp [rowsw]
  | K + 1, hK, k => by
    rw [rowsw, getD_set, rowsw_len, rowsw_get K (by omega), rowsw_get K (by omega)]
    by_cases e : k = K
    · subst e; rw [if_pos ⟨rfl, by omega⟩, if_neg (by omega), if_pos (by omega)]
    · rw [if_neg (fun h => e h.1)]
      by_cases h : k < K
      · rw [if_pos h, if_pos (by omega)]
      · rw [if_neg h, if_neg (by omega)]
noncomputable def newPat (inputs : List Nat) (bs : Nat → Nat) : Pat := fun k => decide (k ∈ inputs) && decide (bs k = 1)
theorem pat_app {pats : List Pat} {p : Pat} {j : Nat} : pat (pats ++ [p]) j = if j < pats.length then pat pats j else if j = pats.length then p else fun _ => false := by
  unfold pat
  rw [List.getD_eq_getElem?_getD, List.getD_eq_getElem?_getD, List.getElem?_append]
  by_cases h : j < pats.length
  · rw [if_pos h, if_pos h]
  · rw [if_neg h, if_neg h]
    by_cases e : j = pats.length
    · subst e; simp
    · rw [if_neg e]
      have : [p][j - pats.length]? = none := List.getElem?_eq_none (by simp; omega)
      rw [this]; rfl
theorem bit_shift {b c j : Nat} (hb : b ≤ 1) : (b <<< c).testBit j = (decide (j = c) && decide (b = 1)) := by
  rw [Nat.testBit_shiftLeft]
  by_cases h : j = c
  · subst h
    match b, hb with
    | 0, _ => simp
    | 1, _ => simp
  · by_cases h2 : j ≥ c
    · have : b.testBit (j - c) = false := Nat.testBit_lt_two_pow (Nat.lt_of_lt_of_le (show b < 2 ^ 1 by omega) (Nat.pow_le_pow_right (by decide) (by omega)))
      simp [this, h]
    · simp [h2, h]
theorem more_sem {nodes : List (Option (Nat × Nat))} (hw : WfN nodes) {inputs : List Nat} (nd : inputs.Nodup) (hlt : ∀ i ∈ inputs, i < nodes.length) {P : Sd} {pats : List Pat} (hS : Mng nodes inputs P pats) {bs : Nat → Nat} (hb : ∀ k, bs k ≤ 1) : Mng nodes inputs (P.more nodes inputs bs) (pats ++ [newPat inputs bs]) := by
  have hc := hS.c
  refine fresh_sem hw nd hlt (by simp [hc]) (by show 0 < P.c + 1; omega) (by show (rowsw _ _ _ _ _).length = _; rw [rowsw_len]; exact hS.rl) (fun i hi j => ?_) (fun j k hk => ?_)
  · show ((rowsw inputs bs P.c P.rows.length P.rows).getD i 0).testBit j = _
    rw [rowsw_get _ (Nat.le_refl _), if_pos (by rw [hS.rl]; exact hi), Nat.testBit_or, hS.rb i hi, bit_shift (hb _), pat_app, hc]
    have hm : inputs.getD i 0 ∈ inputs := List.mem_of_getElem? (getD_some hi)
    rw [List.length_append, List.length_singleton]
    by_cases h : j < pats.length
    · have h2 : ¬ j = pats.length := by omega
      have h3 : j < pats.length + 1 := by omega
      simp [h, h2, h3]
    · by_cases h2 : j = pats.length
      · subst h2
        generalize inputs.getD i 0 = y at hm ⊢
        simp [newPat, hm]
      · have h3 : ¬ j < pats.length + 1 := by omega
        simp [h, h2, h3]
  · rw [pat_app]
    split
    · exact hS.pz j k hk
    · split
      · simp [newPat, hk]
      · rfl
-- P6
/-- the inputs are the leaves -/
structure GrI (nodes : List (Option (Nat × Nat))) (inputs : List Nat) : Prop where
  nd : inputs.Nodup
  lt : ∀ i ∈ inputs, 0 < i ∧ i < nodes.length
  leaf : ∀ k < nodes.length, nodes.getD k none = none → k = 0 ∨ k ∈ inputs
  k4 : inputs.length ≤ 4
/-- the codes of assignments that no pattern has -/
noncomputable def fr (inputs : List Nat) (pats : List Pat) : List Nat := (List.range (2 ^ inputs.length)).filter fun m => pats.all fun p => (List.range inputs.length).any fun i => m.testBit i != p (inputs.getD i 0)
theorem filter_lt {l : List Nat} {p : Nat → Bool} {x : Nat} (hx : x ∈ l) (hp : p x = false) : (l.filter p).length < l.length := by
  induction l with
  | nil => cases hx
  | cons a l ih =>
    rcases List.mem_cons.mp hx with rfl | hx
    · rw [List.filter_cons_of_neg (by simp [hp])]
      exact Nat.lt_succ_of_le (List.length_filter_le _ _)
    · have := ih hx
      rw [List.filter_cons]
      split <;> simp only [List.length_cons] <;> omega
theorem xor_one (a b : Nat) : (a ^^^ b) &&& 1 = (a.testBit 0 ^^ b.testBit 0).toNat := by
  rw [← Nat.testBit_xor]
  generalize a ^^^ b = w
  rw [Nat.and_one_is_mod, Nat.testBit_zero]
  rcases Nat.mod_two_eq_zero_or_one w with h | h <;> simp [h]
theorem fr_lt {inputs : List Nat} {pats : List Pat} {q : Pat} (h : ∀ p ∈ pats, ∃ i < inputs.length, q (inputs.getD i 0) ≠ p (inputs.getD i 0)) : (fr inputs (pats ++ [q])).length < (fr inputs pats).length := by
  obtain ⟨m, hm, hb⟩ := bits_ex (fun i => q (inputs.getD i 0)) inputs.length
  have e : fr inputs (pats ++ [q]) = (fr inputs pats).filter fun m => (List.range inputs.length).any fun i => m.testBit i != q (inputs.getD i 0) := by
    unfold fr
    rw [List.filter_filter]
    congr 1
    funext m
    simp only [List.all_append, List.all_cons, List.all_nil, Bool.and_true, Bool.true_and, Bool.and_comm]
  rw [e]
  refine filter_lt (x := m) (List.mem_filter.mpr ⟨List.mem_range.mpr hm, ?_⟩) ?_
  · rw [List.all_eq_true]
    intro p hp
    obtain ⟨i, hi, hne⟩ := h p hp
    rw [List.any_eq_true]
    exact ⟨i, List.mem_range.mpr hi, by rw [hb i hi]; simpa using hne⟩
  · rw [List.any_eq_false]
    intro i hi
    rw [hb i (List.mem_range.mp hi)]
    simp
/-- the patterns from the first-th on are new -/
noncomputable def Dst (first : Nat) (pats : List Pat) : Prop := ∀ j, first ≤ j → j < pats.length → ∀ i < j, pat pats i ≠ pat pats j
theorem Dst.snoc {first : Nat} {pats : List Pat} {q : Pat} (h : Dst first pats) (hq : ∀ i < pats.length, pat pats i ≠ q) : Dst first (pats ++ [q]) := by
  intro j hf hj i hi
  rw [List.length_append, List.length_singleton] at hj
  rw [pat_app, pat_app]
  by_cases e : j < pats.length
  · rw [if_pos e, if_pos (by omega)]; exact h j hf e i hi
  · have e2 : j = pats.length := by omega
    rw [if_neg e, if_pos e2, if_pos (by omega)]
    exact hq i (by omega)
theorem pat_mem {pats : List Pat} {p : Pat} (h : p ∈ pats) : ∃ j < pats.length, pat pats j = p := by
  obtain ⟨j, hj, rfl⟩ := List.getElem_of_mem h
  exact ⟨j, hj, by simp [pat, List.getD_eq_getElem?_getD, List.getElem?_eq_getElem hj]⟩
section
variable {nodes : List (Option (Nat × Nat))} {inputs : List Nat} {P : Sd} {pats : List Pat}
theorem bl_all (hG : Gr nodes) (hI : GrI nodes inputs) {f g : Pat} (h0 : f 0 = g 0) (hi : ∀ k ∈ inputs, f k = g k) {l : Nat} (hl : l >>> 1 < nodes.length) : bl' nodes f l = bl' nodes g l := by
  have := bv_congr hG.wf (S := fun k => k < nodes.length) (f := f) (g := g) (fun k p q hk e => let z := hG.wf _ _ _ e; ⟨by omega, by omega⟩) (fun k hk e => by
    rcases hI.leaf k hk e with rfl | h
    · exact h0
    · exact hi k h) _ hl
  rw [bl', bl', this]
/-- equal normal words: equal up to the sign under each pattern -/
theorem same_sign (hM : Mng nodes inputs P pats) {node other : Nat} (hn : node < nodes.length) (ho : other < nodes.length) (he : nrm (P.vals.getD other 0) P.c = nrm (P.vals.getD node 0) P.c) {j : Nat} (hj : j < pats.length) :
    bl' nodes (pat pats j) (2 * node) = bl' nodes (pat pats j) (2 * other + ((P.vals.getD node 0 ^^^ P.vals.getD other 0) &&& 1)) := by
  have lt : ∀ k < nodes.length, P.vals.getD k 0 < 2 ^ P.c := fun k hk => Nat.lt_pow_two_of_testBit _ fun j hj => by
    rw [hM.vb k hk, hM.c] at *
    simp; intro h; omega
  have q := (nrm_eq (lt _ ho) (lt _ hn)).mp he j (by rw [hM.c]; exact hj)
  have hs := xor_one (P.vals.getD node 0) (P.vals.getD other 0)
  rw [hM.vb _ hn, hM.vb _ ho, hM.vb _ hn, hM.vb _ ho] at q
  rw [hM.vb _ hn, hM.vb _ ho] at hs
  have h0 : 0 < pats.length := by omega
  simp only [hj, h0, decide_true, Bool.true_and] at q hs
  rw [hs]
  have e1 : (2 * node) >>> 1 = node := by rw [Nat.shiftRight_eq_div_pow]; omega
  have e2 : ∀ b : Bool, (2 * other + b.toNat) >>> 1 = other := fun b => by rw [Nat.shiftRight_eq_div_pow]; cases b <;> simp <;> omega
  have e3 : ∀ b : Bool, decide ((2 * other + b.toNat) &&& 1 = 1) = b := fun b => by rw [Nat.and_one_is_mod]; cases b <;> simp <;> omega
  have e4 : decide ((2 * node) &&& 1 = 1) = false := by rw [Nat.and_one_is_mod]; simp
  rw [bl', bl', e1, e2, e3, e4]
  revert q
  cases bv nodes (pat pats j) other <;> cases bv nodes (pat pats 0) other <;> cases bv nodes (pat pats j) node <;> cases bv nodes (pat pats 0) node <;> simp
end
-- W15
section
variable {F : Fx} {vs : List (Option Value)} {D D' R : Led}
variable {Q : Value → List (Option Value) → Led → Prop}
variable {nodes : List (Option (Nat × Nat))} {inputs : List Nat} {A : Ag}
theorem ltI_ {a b : Int} {t u : Tok} (h : Q (.bool (decide (a < b))) vs D) : HT F vs D (compareOp .Lt (.int a t) (.int b u)) Q := fun s hs => lt_int ⟨_, _, hs, h⟩
/-- what the search keeps -/
structure Srch (nodes : List (Option (Nat × Nat))) (inputs : List Nat) (first : Nat) (kept : List Nat) (base : List Pat) (P : Sd) (pats : List Pat) : Prop where
  pr : base <+: pats
  M : Mng nodes inputs P pats
  K : P.kept = kept
  d : Dst first pats
  b : P.c + (fr inputs pats).length ≤ 100
theorem led_move {w : World} {x : Addr} {S : Sg} {p : Addr × Obj} : Le (S.led w A x (p :: R)) (p :: S.led w A x R) := Le.of_perm (by
    have := List.perm_middle (a := p) (l₁ := S.led w A x []) (l₂ := R)
    simp only [Sg.led, List.append_nil, List.cons_append, List.append_assoc] at this
    simp only [Sg.led]
    exact this)
theorem led_drop {w : World} {x : Addr} {S : Sg} {p : Addr × Obj} : Le (S.led w A x R) (S.led w A x (p :: R)) := by
  have h : (S.C ++ R).Sublist (S.C ++ p :: R) := List.Sublist.append (List.Sublist.refl _) (List.sublist_cons_self _ _)
  exact Le.of_sub ((((((((((h.cons_cons _).cons_cons _).cons_cons _).cons_cons _).cons_cons _).cons_cons _).cons_cons _).cons_cons _).cons_cons _).cons_cons _)
theorem w_equal_literal (ok : F.Ok) (hlv : F.lv < 32) {x : Addr} {S : Sg} {P : Sd} {base pats : List Pat} {first node cf : Nat} {t1 t3 : Tok} (ha : AgOk A R nodes inputs) (hG : Gr nodes) (hI : GrI nodes inputs) (hS : S.Is F.w P) (hM : Srch nodes inputs first P.kept base P pats) (hn : node < nodes.length) (hn0 : 0 < node) (hk : ∀ k ∈ P.kept, k < nodes.length)
    (h1 : ∀ (S' : Sg) P' pats' other sgn t, S'.Is F.w P' → Srch nodes inputs first P.kept base P' pats' → other ∈ P.kept → sgn ≤ 1 → (∀ leaf : Pat, leaf 0 = false → bl' nodes leaf (2 * node) = bl' nodes leaf (2 * other + sgn)) → Q (VN (2 * other + sgn) t) vs (S'.led F.w A x R))
    (h2 : ∀ (S' : Sg) P' pats' t, S'.Is F.w P' → Srch nodes inputs first P.kept base P' pats' → (∀ k ∈ P.kept, nrm (P'.vals.getD k 0) P'.c ≠ nrm (P'.vals.getD node 0) P'.c) → Q (.int (-1) t) vs (S'.led F.w A x R)) :
    HT F vs (S.led F.w A x R) (call (.ref 471) [.ref x, VN node t1, VN cf t3]) Q := by
  have hzn := hG.sz
  refine callP_ ok k_equal_literal (ps := [Str.ofString "signatures", Str.ofString "node", Str.ofString "conflicts"]) (ls := [Str.ofString "refused", Str.ofString "other", Str.ofString "sign", Str.ofString "literal", Str.ofString "bits"]) rfl rfl rfl (by omega) ?_
  intro g L ok'
  show HT _ [some _, some _, some _, none, none, none, none, none] ((_, _) :: _) _ _
  refine execs_cons_ ?_
  repeat ktr_units
  rename_i rd ro hrn hro
  refine HT.le (D' := S.led F.w A x ((rd, ro) :: R)) ?_ led_move
  refine While_ (fun k vs' D' => ∃ (S' : Sg) (P' : Sd) (pats' : List Pat) (u4 u5 u6 u7 : Option Value), vs' = [some (.ref x), some (VN node t1), some (VN cf t3), some (.ref rd), u4, u5, u6, u7] ∧ D' = S'.led F.w A x ((rd, ro) :: R) ∧ S'.Is F.w P' ∧ Srch nodes inputs first P.kept base P' pats' ∧ k = (fr inputs pats').length) ?_ _ ⟨S, P, pats, _, _, _, _, rfl, rfl, hS, hM, rfl⟩
  rintro k _ _ ⟨S', P', pats', u4, u5, u6, u7, rfl, rfl, hS', hM', rfl⟩
  have hvl := hM'.M.vl
  have hbd := hM'.b
  have ha' : AgOk A ((rd, ro) :: R) nodes inputs := ha.mono fun p hp => .tail _ hp
  repeat ktr_units
  refine w_next_candidate (F := F.sub g L F.A d_equal_literal 471) (S := S') (P := P') (R := (rd, ro) :: R) ok' (by show F.lv + 1 < 37; omega) hS' (by omega) (.head _) hro fun to => ?_
  repeat ktr_units
  refine ltI_ (b := 0) ?_
  repeat ktr_units
  rcases cand_some hM'.M.gs with ⟨ec, hne⟩ | ⟨other, hok, ec, hno⟩
  · rw [ec]
    refine bite (fun _ => ?_) fun e => by cases e
    refine HT.le (D' := S'.led F.w A x R) ?_ led_drop
    repeat ktr_units
    refine Unary_ ?_
    repeat ktr_units
    refine negN_ fun t => ?_
    rw [hM'.K] at hne
    exact h2 S' P' pats' t hS' hM' hne
  · rw [ec]
    rw [hM'.K] at hok
    have hol := hk _ hok
    refine bite (fun e => by have := of_decide_eq_true e; omega) fun _ => ?_
    repeat ktr_units
    refine sg_get_values ok' (by k_mem) (by k_mem) rfl ?_
    repeat ktr_units
    refine tail_il (by k_mem) hS'.V (getD_some (k := node) (by omega)) (by omega) fun _ => ?_
    repeat ktr_units
    refine sg_get_values ok' (by k_mem) (by k_mem) rfl ?_
    repeat ktr_units
    refine tail_il (by k_mem) hS'.V (getD_some (k := other) (by omega)) (by omega) fun _ => ?_
    repeat ktr_units
    have hs1 : (P'.vals.getD node 0 ^^^ P'.vals.getD other 0) &&& 1 ≤ 1 := by rw [Nat.and_one_is_mod]; omega
    have hsame := fun j hj => same_sign hM'.M hn hol hno (j := j) hj
    generalize (P'.vals.getD node 0 ^^^ P'.vals.getD other 0) &&& 1 = sg at hs1 hsame ⊢
    have e1 : (2 * node) >>> 1 = node := by rw [Nat.shiftRight_eq_div_pow]; omega
    have e2 : (2 * other + sg) >>> 1 = other := by rw [Nat.shiftRight_eq_div_pow]; omega
    refine mulN_ (a := 2) (IntMulOk.of_left (by decide)) fun _ => ?_
    repeat ktr_units
    refine sg_get_aig ok' (by k_mem) (by k_mem) rfl ?_
    repeat ktr_units
    refine mulN_ (a := 2) (IntMulOk.of_left (by decide)) fun _ => ?_
    repeat ktr_units
    refine w_parting (F := F.sub g L F.A d_equal_literal 471) (nodes := nodes) (inputs := inputs) (A := A) (l := 2 * node) (r := 2 * other + sg) (c := cf) ok' (by show F.lv + 1 < 34; omega) ha'.in hG (by omega) (by omega) (by omega) (fun heq d o hd => ?_) fun d o kvs bs hd hbd2 hpos hle hz hne => ?_
    · repeat ktr_units
      refine bite (fun e => by cases e) fun _ => ?_
      repeat ktr_units
      refine len_d (F := F.sub g L F.A d_equal_literal 471) ok' (by k_mem) hd (by simp) fun _ => ?_
      repeat ktr_units
      refine bite (fun _ => ?_) fun e => by cases e
      refine HT.le (D' := S'.led F.w A x R) ?_ (led_drop.trans (Le.of_sub (List.sublist_cons_self _ _)))
      repeat ktr_units
      exact h1 S' P' pats' other sg _ hS' hM' hok hs1 heq
    · repeat ktr_units
      refine bite (fun e => by cases e) fun _ => ?_
      repeat ktr_units
      refine len_d (F := F.sub g L F.A d_equal_literal 471) ok' (by k_mem) hd (by omega) fun _ => ?_
      repeat ktr_units
      refine bite (fun e => by have := of_decide_eq_true e; omega) fun _ => ?_
      refine HT.le (D' := S'.led F.w A x ((d, o) :: (rd, ro) :: R)) ?_ led_move
      repeat ktr_units
      refine sg_m_add_pattern ok' (by k_mem) (by k_mem) ?_
      repeat ktr_units
      refine HT.post (w_add_pattern (F := F.sub g L F.A d_equal_literal 471) (S := S') (P := P') (db := d) (ob := o) (bs := bs) (nodes := nodes) (inputs := inputs) ok' (by show F.lv + 1 < 35; omega) (ha'.mono fun p hp => .tail _ hp) hS' (.head _) hd hbd2 (by omega) hM'.M.rl.symm (by rw [hM'.K]; exact hk) fun S2 hS2 => ⟨S2.led F.w A x ((rd, ro) :: R), led_drop, ?_⟩)
      refine ⟨by simp, ?_⟩
      repeat ktr_units
      have hbs : ∀ k, bs k ≤ 1 := fun k => (hbd2 k).1
      have h0i : 0 ∉ inputs := fun h => by have := (hI.lt 0 h).1; omega
      have hqf : ∀ l, l >>> 1 < nodes.length → bl' nodes (fun k => decide (bs k = 1)) l = bl' nodes (newPat inputs bs) l := fun l hl => bl_all hG hI (by simp [newPat, h0i, hz]) (fun k hk => by simp [newPat, hk]) hl
      rw [hqf _ (by omega), hqf _ (by omega)] at hne
      have hnew : ∀ j < pats'.length, ∃ i < inputs.length, newPat inputs bs (inputs.getD i 0) ≠ pat pats' j (inputs.getD i 0) := fun j hj => by
        refine Classical.byContradiction fun hcon => hne ?_
        have heq : ∀ k ∈ inputs, newPat inputs bs k = pat pats' j k := fun k hk => by
          have hil := List.idxOf_lt_length_of_mem hk
          have e : inputs.getD (inputs.idxOf k) 0 = k := by simp [List.getD_eq_getElem?_getD, List.getElem?_eq_getElem hil]
          refine Classical.byContradiction fun h => hcon ⟨_, hil, ?_⟩
          rw [e]; exact h
        have z : newPat inputs bs 0 = pat pats' j 0 := by rw [hM'.M.pz j 0 h0i]; simp [newPat, h0i]
        rw [bl_all hG hI z heq (by omega), bl_all hG hI z heq (by omega)]
        exact hsame j hj
      have hfr := fr_lt (inputs := inputs) (pats := pats') (q := newPat inputs bs) fun p hp => by
        obtain ⟨j, hj, rfl⟩ := pat_mem hp
        exact hnew j hj
      refine ⟨_, hfr, S2, _, _, _, _, _, _, rfl, rfl, hS2, ⟨hM'.pr.trans (List.prefix_append _ _), more_sem hG.wf hI.nd (fun i hi => (hI.lt i hi).2) hM'.M hbs, hM'.K, hM'.d.snoc fun i hi e => ?_, by show P'.c + 1 + _ ≤ 100; omega⟩, rfl⟩
      obtain ⟨m, _, hm⟩ := hnew i hi
      exact hm (by rw [e])
end
-- P7
section
variable {nodes : List (Option (Nat × Nat))} {inputs : List Nat} {P : Sd} {pats : List Pat}
theorem getD_app {y : Option (Nat × Nat)} {k : Nat} (hk : k < nodes.length) : (nodes ++ [y]).getD k none = nodes.getD k none := by
  rw [List.getD_eq_getElem?_getD, List.getD_eq_getElem?_getD, List.getElem?_append_left hk]
theorem WfN.left {y : Option (Nat × Nat)} (hw : WfN (nodes ++ [y])) : WfN nodes := fun k l r h => hw k l r (by
  rw [List.getElem?_append_left (List.getElem?_eq_some_iff.mp h).1]; exact h)
/-- one more node changes no earlier word -/
theorem wd_app {y : Option (Nat × Nat)} (hw : WfN (nodes ++ [y])) {leaf : Nat → Nat} {m : Nat} : ∀ k, k < nodes.length → wd (nodes ++ [y]) leaf m k = wd nodes leaf m k := by
  intro k
  induction k using Nat.strongRecOn with
  | ind k ih =>
    intro hk
    cases e : nodes.getD k none with
    | none => rw [wd_none e, wd_none (by rw [getD_app hk]; exact e)]
    | some p =>
      obtain ⟨l, r⟩ := p
      have e' := getD_pair e
      have e2 : (nodes ++ [y])[k]? = some (some (l, r)) := by rw [List.getElem?_append_left hk]; exact e'
      obtain ⟨h1, h2⟩ := hw.left _ _ _ e'
      rw [wd_some hw e2, wd_some hw.left e', ih _ h1 (by omega), ih _ h2 (by omega)]
theorem bv_app {y : Option (Nat × Nat)} (hw : WfN (nodes ++ [y])) {leaf : Pat} {k : Nat} (hk : k < nodes.length) : bv (nodes ++ [y]) leaf k = bv nodes leaf k := by
  rw [bv, bv, wd_app hw k hk]
theorem getD_snoc (ws : List Nat) (v k : Nat) : (ws ++ [v]).getD k 0 = if k < ws.length then ws.getD k 0 else if k = ws.length then v else 0 := by
  rw [List.getD_eq_getElem?_getD, List.getD_eq_getElem?_getD, List.getElem?_append]
  by_cases h : k < ws.length
  · rw [if_pos h, if_pos h]
  · rw [if_neg h, if_neg h]
    by_cases e : k = ws.length
    · subst e; simp
    · rw [if_neg e, List.getElem?_eq_none (by simp; omega)]; rfl
/-- the classes of nodes below do not see one more word -/
theorem clsw_app {vals kept : List Nat} {c v : Nat} (hk : ∀ k ∈ kept, k < vals.length) : clsw (vals ++ [v]) c kept = clsw vals c kept := by
  unfold clsw
  suffices h : ∀ gs, kept.foldl (fun gs k => addg gs (nrm ((vals ++ [v]).getD k 0) c) k) gs = kept.foldl (fun gs k => addg gs (nrm (vals.getD k 0) c) k) gs from h []
  induction kept with
  | nil => intro gs; rfl
  | cons x l ih =>
    intro gs
    simp only [List.foldl_cons]
    rw [getD_snoc, if_pos (hk x (.head _))]
    exact ih (fun k h => hk k (.tail _ h)) _
theorem follow_sem {l r : Nat} (hw : WfN (nodes ++ [some (l, r)])) (hM : Mng nodes inputs P pats) (hk : ∀ k ∈ P.kept, k < nodes.length) :
    Mng (nodes ++ [some (l, r)]) inputs { P with vals := P.vals ++ [andw P.vals (1 <<< P.c - 1) l r] } pats := by
  have hvl := hM.vl
  have hx : (nodes ++ [some (l, r)])[nodes.length]? = some (some (l, r)) := by simp
  obtain ⟨hl, hr⟩ := hw _ _ _ hx
  refine ⟨hM.c, hM.c1, hM.rl, hM.rb, hM.pz, by simp [hvl], fun k hkl j => ?_, ?_⟩
  · show ((P.vals ++ [andw P.vals (1 <<< P.c - 1) l r]).getD k 0).testBit j = _
    rw [List.length_append, List.length_singleton] at hkl
    rw [getD_snoc, hvl]
    by_cases h : k < nodes.length
    · rw [if_pos h, hM.vb k h, bv_app hw h]
    · have e : k = nodes.length := by omega
      subst e
      rw [if_neg h, if_pos rfl, bv_some hw hx, andw, Nat.testBit_and, lit_bit, lit_bit, two_pow_sub_bit, hM.vb _ hl, hM.vb _ hr, bl', bl', bv_app hw hl, bv_app hw hr, hM.c]
      by_cases hj : j < pats.length <;> simp [hj]
  · show P.gs = clsw _ P.c P.kept
    rw [hM.gs, clsw_app (by rw [hvl]; exact hk)]
end
-- W16
section
variable {F : Fx} {vs : List (Option Value)} {D D' R : Led}
variable {Q : Value → List (Option Value) → Led → Prop}
variable {inputs : List Nat} {A : Ag}
theorem led_zip {w : World} {x mg : Addr} {mo : Obj} {S : Sg} : Zip mg mo (S.led w A x ((mg, mo) :: R)) (fun o' => S.led w A x ((mg, o') :: R)) :=
  .tail (.tail (.tail (.tail (.tail (.tail (.tail (.tail (.tail (.tail (Zip.skip .head _))))))))))
theorem w_settle_node (ok : F.Ok) (hlv : F.lv < 30) {old : List (Option (Nat × Nat))} {l r : Nat} {x mg : Addr} {mo : Obj} {S : Sg} {P : Sd} {pats : List Pat} {first cf : Nat} {t1 t3 : Tok} {kvs : List (Int × Value)}
    (ha : AgOk A R (old ++ [some (l, r)]) inputs) (hG : Gr (old ++ [some (l, r)])) (hI : GrI (old ++ [some (l, r)]) inputs) (hS : S.Is F.w P) (hM : Mng old inputs P pats) (hd : Dst first pats) (hb : P.c + (fr inputs pats).length ≤ 100) (hk : ∀ k ∈ P.kept, k < old.length) (h0 : 0 < old.length) (hmo : DI F.w mo kvs) (hkl : kvs.length ≤ 100) (hkk : P.kept.length ≤ 100) (hgl : P.gs.length ≤ 100)
    (h1 : ∀ (S' : Sg) P' pats' other sgn mo' t, S'.Is F.w P' → Srch (old ++ [some (l, r)]) inputs first P.kept pats P' pats' → other ∈ P.kept → sgn ≤ 1 → (∀ leaf : Pat, leaf 0 = false → bl' (old ++ [some (l, r)]) leaf (2 * old.length) = bl' (old ++ [some (l, r)]) leaf (2 * other + sgn)) → DI F.w mo' (stored kvs (old.length : Int) (VN (2 * other + sgn) t)) → Q .none vs (S'.led F.w A x ((mg, mo') :: R)))
    (h2 : ∀ (S' : Sg) P' pats', S'.Is F.w { P' with kept := P.kept ++ [old.length], gs := addg P'.gs (nrm (P'.vals.getD old.length 0) P'.c) old.length } → Srch (old ++ [some (l, r)]) inputs first P.kept pats P' pats' → (∀ k ∈ P.kept, nrm (P'.vals.getD k 0) P'.c ≠ nrm (P'.vals.getD old.length 0) P'.c) → Q .none vs (S'.led F.w A x ((mg, mo) :: R))) :
    HT F vs (S.led F.w A x ((mg, mo) :: R)) (call (.ref 478) [.ref x, .ref mg, VN cf t3]) Q := by
  have hvl := hM.vl
  have hx : (old ++ [some (l, r)])[old.length]? = some (some (l, r)) := by simp
  obtain ⟨hll, hrl⟩ := hG.wf _ _ _ hx
  have hnl : (old ++ [some (l, r)]).length = old.length + 1 := by simp
  have hsz := hG.sz
  have ha' : AgOk A ((mg, mo) :: R) (old ++ [some (l, r)]) inputs := ha.mono fun p hp => .tail _ hp
  refine callP_ ok k_settle_node (ps := [Str.ofString "signatures", Str.ofString "merged", Str.ofString "conflicts"]) (ls := [Str.ofString "node", Str.ofString "literal"]) rfl rfl rfl (by omega) ?_
  intro g L ok'
  show HT _ [some _, some _, some _, none, none] ((_, _) :: _) _ _
  refine execs_cons_ ?_
  repeat ktr_units
  refine sg_get_aig ok' (by k_mem) (by k_mem) rfl ?_
  refine ag_get_nodes ok' (by k_mem) (by k_mem) rfl ?_
  repeat ktr_units
  refine len_nl (by k_mem) ha.N (by omega) fun _ => ?_
  repeat ktr_units
  refine subN_ (by omega) fun tn => ?_
  have en : (old ++ [some (l, r)]).length - 1 = old.length := by omega
  rw [en]
  repeat ktr_units
  refine sg_m_follow ok' (by k_mem) (by k_mem) ?_
  repeat ktr_units
  refine w_follow (F := F.sub g L F.A d_settle_node 478) (S := S) (P := P) ok' (by show F.lv + 1 < 38; omega) ha' hS hx (by omega) (by omega) (by omega) fun S1 hS1 => ?_
  refine ⟨by simp, ?_⟩
  have hM1 := follow_sem hG.wf hM hk
  repeat ktr_units
  refine w_equal_literal (F := F.sub g L F.A d_settle_node 478) (S := S1) (nodes := old ++ [some (l, r)]) (inputs := inputs) (first := first) (base := pats) (pats := pats) ok' (by show F.lv + 1 < 32; omega) ha' hG hI hS1 ⟨List.prefix_refl _, hM1, rfl, hd, hb⟩ (by omega) h0 (fun k hk' => by have := hk k hk'; omega) (fun S2 P2 pats2 other sgn t hS2 hM2 hok hsg heq => ?_) fun S2 P2 pats2 t hS2 hM2 hne => ?_
  · repeat ktr_units
    refine bite (fun e => by have := of_decide_eq_true e; omega) fun _ => ?_
    repeat ktr_units
    refine setItem_dz (F := F.sub g L F.A d_settle_node 478) ok' led_zip hmo (by simp only [sizeLine]; omega) fun mo' hmo' => ?_
    repeat ktr_units
    exact h1 S2 P2 pats2 other sgn mo' t hS2 hM2 hok hsg heq hmo'
  · repeat ktr_units
    refine ltI_ (b := 0) ?_
    repeat ktr_units
    refine bite (fun _ => ?_) fun e => by cases e
    repeat ktr_units
    refine sg_m_keep ok' (by k_mem) (by k_mem) ?_
    repeat ktr_units
    have hK : P2.kept = P.kept := hM2.K
    have hvl2 := hM2.M.vl
    have hgl2 : P2.gs.length ≤ P2.kept.length := by rw [hM2.M.gs]; exact clsw_len _ _ _
    refine w_keep (F := F.sub g L F.A d_settle_node 478) (S := S2) (P := P2) ok' (by show F.lv + 1 < 38; omega) hS2 (by omega) (by rw [hK]; omega) (by rw [hK] at hgl2; omega) fun S3 hS3 => ?_
    refine ⟨by simp, ?_⟩
    repeat ktr_units
    rw [hK] at hS3
    exact h2 S3 P2 pats2 hS3 hM2 hne
end
-- W17
@[reducible] noncomputable def Ag.led (w : World) (A : Ag) (td : Addr) (oT : Obj) (R : Led) : Led :=
  (A.g, instObj 116 A.dg) :: (A.dg, dictOf (aigE w.params A.T (.ref A.nl) (.ref A.il) A.vo A.vt) A.n) :: (A.nl, A.oN) :: (A.il, A.oI) :: (td, oT) :: R
theorem ag_mk (P : Params) : makesIn (KK P) 116 = true := by kernel_rfl
theorem ag_in (P : Params) : findIn (KK P) (.ref 116) (Str.ofString "__init__") = some (some (.ref 35)) := by kernel_rfl
theorem ag_if (P : Params) : isFn (KK P) (.ref 35) = true := by kernel_rfl
section
variable {F : Fx} {vs : List (Option Value)} {D D' R : Led}
variable {Q : Value → List (Option Value) → Led → Prop}
variable {nodes : List (Option (Nat × Nat))} {inputs : List Nat} {A : Ag}
theorem w_Aig (ok : F.Ok) (hlv : F.lv < 38) (h : ∀ A td oT, A.vt = .ref td → AgOk A [] [none] [] → TO F.w [] oT 0 → Q (.ref A.g) vs (A.led F.w td oT D)) : HT F vs D (call (.ref 116) []) Q := by
  refine new_ ok k_Aig__init (ps := [Str.ofString "self"]) (ls := []) (ag_mk _) (ag_in _) (ag_if _) (fun _ => rfl) rfl rfl (by omega) fun x dx hdx => ?_
  intro g L ok'
  refine HT.post ?_
  show HT _ [some _] _ _ _
  refine execs_cons_ ?_
  repeat ktr_units
  refine setT_ ok' (x := x) (dx := dx) (by k_mem) (by tb_start) (ag_sa' _) (ag_po _) (ag_tk_nodes _) (ag_hd _) (by kernel_rfl) (fun t => ag_n0 t) (fun t => by simp) fun t0 => ?_
  repeat ktr_units
  refine setT_ ok' (x := x) (dx := dx) (by k_mem) (by tb_start) (ag_sa' _) (ag_po _) (ag_tk_inputs _) (ag_hd _) (by kernel_rfl) (fun t => ag_n1 t) (fun t => by simp) fun t1 => ?_
  repeat ktr_units
  refine setT_ ok' (x := x) (dx := dx) (by k_mem) (by tb_start) (ag_sa' _) (ag_po _) (ag_tk_outputs _) (ag_hd _) (by kernel_rfl) (fun t => ag_n2 t) (fun t => by simp) fun t2 => ?_
  repeat ktr_units
  refine setT_ ok' (x := x) (dx := dx) (by k_mem) (by tb_start) (ag_sa' _) (ag_po _) (ag_tk_table _) (ag_hd _) (by kernel_rfl) (fun t => ag_n3 t) (fun t => by simp) fun t3 => ?_
  repeat ktr_units
  rename_i nl _ il _ ol _ td oT _ hoT
  refine ⟨_, ?_, rfl, h ⟨x, dx, nl, il, fun | 0 => t0 | 1 => t1 | 2 => t2 | _ => t3, 4, .ref ol, .ref td, W.listOf [Value.none].toArray 0, W.listOf [].toArray 0⟩ td oT rfl ⟨⟨[.none], 0, rfl, rfl, fun i p hp => ?_⟩, ⟨[], 0, rfl, .nil⟩, by decide, by decide, fun k l r hk => ?_, fun k i hk => by simp at hk⟩ (TO.ofEmpty hoT)⟩
  · exact Le.pick (.tail (.tail (.tail (.tail .head)))) (Le.pick (.tail (.tail (.tail (.tail .head)))) (Le.pick (.tail (.tail (.tail .head))) (Le.pick (.tail (.tail .head)) (Le.pick .head (Le.skip (Le.refl _))))))
  · match i, hp with
    | 0, hp => cases hp; exact ⟨.none, rfl, rfl⟩
  · match k, hk with
    | 0, hk => cases hk
theorem w_add_input (ok : F.Ok) (hlv : F.lv < 38) {td : Addr} {oT : Obj} (ha : AgOk A R nodes inputs) (hz : nodes.length < 900) (hzi : inputs.length < 900)
    (h : ∀ oN' oI' t, AgOk { A with oN := oN', oI := oI' } R (nodes ++ [none]) (inputs ++ [nodes.length]) → Q (VN (2 * nodes.length) t) vs (({ A with oN := oN', oI := oI' } : Ag).led F.w td oT R)) : HT F vs (A.led F.w td oT R) (call (.ref 42) [.ref A.g]) Q := by
  refine callP_ ok k_Aig_add_input (ps := [Str.ofString "self"]) (ls := [Str.ofString "node"]) rfl rfl rfl (by omega) ?_
  intro g L ok'
  show HT _ [some _, none] ((_, _) :: _) _ _
  refine execs_cons_ ?_
  repeat ktr_units
  refine ag_get_nodes ok' (by k_mem) (by k_mem) rfl ?_
  repeat ktr_units
  refine len_nl (by k_mem) ha.N (by omega) fun _ => ?_
  repeat ktr_units
  refine ag_get_nodes ok' (by k_mem) (by k_mem) rfl ?_
  repeat ktr_units
  refine appendNL_m (by k_mem) ha.N ?_
  repeat ktr_units
  refine append_nl (by tb_start) ha.N (p := none) rfl (by simp only [sizeLine]; omega) fun oN' hN' => ?_
  refine ⟨by simp, ?_⟩
  repeat ktr_units
  refine ag_get_inputs ok' (by k_mem) (by k_mem) rfl ?_
  repeat ktr_units
  refine appendIL_m (by k_mem) ha.I ?_
  repeat ktr_units
  refine append_il (by tb_start) ha.I (by simp only [sizeLine]; omega) fun oI' hI' => ?_
  refine ⟨by simp, ?_⟩
  repeat ktr_units
  refine mulN_ (a := 2) (IntMulOk.of_left (by decide)) fun _ => ?_
  refine h oN' oI' _ ⟨hN', hI', by simp; omega, by simp; omega, fun k l r hk => ?_, fun k i hk => ?_⟩
  · rw [List.getElem?_append] at hk
    split at hk
    · exact ha.wf k l r hk
    · cases hj : k - nodes.length with
      | zero => rw [hj] at hk; simp at hk
      | succ j => rw [hj] at hk; simp at hk
  · rw [List.length_append, List.length_singleton]
    rw [List.getElem?_append] at hk
    split at hk
    · exact Nat.lt_succ_of_lt (ha.wi k i hk)
    · cases hj : k - inputs.length with
      | zero => rw [hj] at hk; simp at hk; omega
      | succ j => rw [hj] at hk; simp at hk
theorem w_land (ok : F.Ok) (hlv : F.lv < 38) {RL : Led} (hR : ∀ p ∈ R, p ∈ RL) {td : Addr} {oT : Obj} {n l r : Nat} {t u : Tok} (hv : A.vt = .ref td) (ha : AgOk A R nodes inputs) (hT : TO F.w R oT n) (hn : n ≤ 1000) (hz : nodes.length < 900)
    (h1 : ∀ v t, Q (VN v t) vs (A.led F.w td oT RL))
    (h2 : ∀ E oN' oT' t, 2 ≤ min l r → NL (E ++ R) oN' (nodes ++ [some (min l r, max l r)]) → TO F.w (E ++ R) oT' (n + 1) → Q (VN (2 * nodes.length) t) vs (({ A with oN := oN' } : Ag).led F.w td oT' (E ++ RL))) :
    HT F vs (A.led F.w td oT RL) (call (.ref 63) [.ref A.g, VN l t, VN r u]) Q := by
  refine callP_ ok k_Aig_land (ps := [Str.ofString "self", Str.ofString "l", Str.ofString "r"]) (ls := [Str.ofString "node"]) rfl rfl rfl (by omega) ?_
  intro g L ok'
  show HT _ [some _, some _, some _, none] ((_, _) :: _) _ _
  refine execs_cons_ ?_
  have main : ∀ (a b : Nat) (ta tb : Tok), a ≤ b → a = min l r → b = max l r → HT (F.sub g L F.A d_Aig_land 63) [some (.ref A.g), some (VN a ta), some (VN b tb), none] (A.led F.w td oT RL) (execs (d_Aig_land.body.drop 1) (F.sub g L F.A d_Aig_land 63).env) fun fl _ D' => Q (match fl with | .ret v => v | _ => .none) vs D' := by
    intro a b ta tb hab ea eb
    show HT _ [some _, some _, some _, none] ((_, _) :: _) (execs (_ :: _) _) _
    refine execs_cons_ ?_
    repeat ktr_units
    refine bite (fun _ => ?_) fun e0 => ?_
    · repeat ktr_units
      exact h1 _ _
    repeat ktr_units
    refine bite (fun _ => ?_) fun e1 => ?_
    · repeat ktr_units
      exact h1 _ _
    repeat ktr_units
    refine bite (fun _ => ?_) fun e2 => ?_
    · repeat ktr_units
      exact h1 _ _
    repeat ktr_units
    refine bite (fun _ => ?_) fun e3 => ?_
    · repeat ktr_units
      exact h1 _ _
    repeat ktr_units
    refine ag_get_table ok' (by k_mem) (by k_mem) (by rw [hv]; rfl) ?_
    rw [hv]
    repeat ktr_units
    refine tget_m (o := oT) (by k_mem) (fun p hp => by have := hR p hp; k_mem) hT ?_
    repeat ktr_units
    refine Unary_ ?_
    repeat ktr_units
    refine negN_ fun _ => ?_
    repeat ktr_units
    refine tget_ (F := F.sub g L F.A d_Aig_land 63) (o := oT) (R := R) (n := n) ok' (by k_mem) (fun p hp => by have := hR p hp; k_mem) hT (.head _) (fun k tk => ?_) ?_
    · refine HT.le ?_ (Le.skip (Le.refl _))
      repeat ktr_units
      refine bite (fun e => by have := of_decide_eq_true e; omega) fun _ => ?_
      repeat ktr_units
      refine mulN_ (a := 2) (IntMulOk.of_left (by decide)) fun _ => ?_
      rw [← hv]
      exact h1 _ _
    · refine HT.le ?_ (Le.skip (Le.refl _))
      repeat ktr_units
      refine ltI_ (b := 0) ?_
      repeat ktr_units
      refine bite (fun _ => ?_) fun e => by cases e
      repeat ktr_units
      refine ag_get_nodes ok' (by k_mem) (by k_mem) rfl ?_
      repeat ktr_units
      refine len_nl (by k_mem) ha.N (by omega) fun _ => ?_
      repeat ktr_units
      refine ag_get_nodes ok' (by k_mem) (by k_mem) rfl ?_
      repeat ktr_units
      refine appendNL_m (by k_mem) ha.N ?_
      repeat ktr_units
      rename_i b1 hb1
      refine append_nl (by tb_start) (ha.N.mono (R' := (b1, tupOf [VN a ta, VN b tb]) :: R) fun p hp => .tail _ hp) (p := some (a, b)) ⟨b1, ta, tb, rfl, .head _⟩ (by simp only [sizeLine]; omega) fun oN' hN' => ?_
      refine ⟨by simp, ?_⟩
      repeat ktr_units
      refine ag_get_table ok' (by k_mem) (by k_mem) rfl ?_
      repeat ktr_units
      rename_i b2 hb2
      refine tset_ (F := F.sub g L F.A d_Aig_land 63) (R := R) (n := n) (b := a) (c := b) (t := ta) (u := tb) ok' (by tb_start) (fun p hp => by have := hR p hp; k_mem) hT (.head _) hn fun oT' hT' => ?_
      refine execs_nil_ ?_
      refine HT.le (D' := (A.g, instObj 116 A.dg) :: (A.dg, dictOf (aigE F.w.params A.T (.ref A.nl) (.ref A.il) A.vo (.ref td)) A.n) :: (A.nl, oN') :: (A.il, A.oI) :: (td, oT') :: ([(b2, tupOf [VN a ta, VN b tb]), (b1, tupOf [VN a ta, VN b tb])] ++ RL)) ?_ (Le.pick (.tail (.tail .head)) (Le.pick (.tail (.tail .head)) (Le.pick (.tail (.tail .head)) (Le.pick (.tail (.tail .head)) (Le.pick (.tail (.tail .head)) (Le.refl _))))))
      repeat ktr_units
      refine mulN_ (a := 2) (IntMulOk.of_left (by decide)) fun _ => ?_
      rw [← hv]
      have e0 := of_decide_eq_false e0
      have e2 := of_decide_eq_false e2
      exact h2 _ oN' oT' _ (by omega) (by rw [← ea, ← eb]; exact hN'.mono fun p hp => .tail _ hp) (hT'.mono fun p hp => by
        rcases List.mem_cons.mp hp with rfl | hp
        · exact .head _
        · exact .tail _ (.tail _ hp))
  repeat ktr_units
  refine bite (fun e => ?_) fun e => ?_
  · have e := of_decide_eq_true e
    repeat ktr_units
    refine AssignSw_ ok' (v1 := VN r u) (v2 := VN l t) (by tb_rel) (by tb_rel) ?_ (by kernel_rfl) (by kernel_rfl)
    repeat ktr_units
    refine ⟨_, rfl, rfl, .head _, ?_⟩
    refine execs_nil_ ?_
    refine HT.le ?_ (Le.skip (Le.refl _))
    exact main r l u t (by omega) (by omega) (by omega)
  · have e := of_decide_eq_false e
    refine execs_nil_ ?_
    exact main l r t u (by omega) (by omega) (by omega)
end
-- W18
noncomputable abbrev sigP (P : Params) (t0 t1 t2 : Tok) (va vc vr : Value) : List DictEntry := [ent P "aig" t0 va, ent P "count" t1 vc, ent P "rows" t2 vr]
theorem sp_g_count {P t0 t1 t2} {va vc vr : Value} : getL (Str.ofString "count") (sigP P t0 t1 t2 va vc vr) = some (some vc) := by kernel_rfl
theorem sp_g_rows {P t0 t1 t2} {va vc vr : Value} : getL (Str.ofString "rows") (sigP P t0 t1 t2 va vc vr) = some (some vr) := by kernel_rfl
theorem sp_g_mask {P t0 t1 t2} {va vc vr : Value} : getL (Str.ofString "mask") (sigP P t0 t1 t2 va vc vr) = some none := by kernel_rfl
theorem sg_mk (P : Params) : makesIn (KK P) 439 = true := by kernel_rfl
theorem sg_in (P : Params) : findIn (KK P) (.ref 439) (Str.ofString "__init__") = some (some (.ref 394)) := by kernel_rfl
theorem sg_if (P : Params) : isFn (KK P) (.ref 394) = true := by kernel_rfl
/-- the rows that the words give -/
noncomputable def rw0 (words : List Nat) (m k : Nat) : List Nat := (List.range k).map fun i => if i < words.length then words.getD i 0 &&& m else 0
theorem rw0_len (words : List Nat) (m k : Nat) : (rw0 words m k).length = k := by simp [rw0]
theorem rw0_succ (words : List Nat) (m k : Nat) : rw0 words m (k + 1) = rw0 words m k ++ [if k < words.length then words.getD k 0 &&& m else 0] := by simp [rw0, List.range_succ]
section
variable {F : Fx} {vs : List (Option Value)} {D D' R : Led}
variable {Q : Value → List (Option Value) → Led → Prop}
variable {nodes : List (Option (Nat × Nat))} {inputs : List Nat} {A : Ag}
theorem w_mask0 (ok : F.Ok) (hlv : F.lv < 40) {x dx : Addr} {t0 t1 t2 n} {va vr : Value} {c : Nat} {t : Tok} (hx : (x, instObj 439 dx) ∈ D) (hd : (dx, dictOf (sigP F.w.params t0 t1 t2 va (VN c t) vr) n) ∈ D) (hc : c ≤ 1000)
    (h : ∀ t, Q (VN (1 <<< c - 1) t) vs D) : HT F vs D (call (.ref 401) [.ref x]) Q := by
  refine callP_ ok k_Signatures_mask (ps := [Str.ofString "self"]) (ls := []) rfl rfl rfl hlv ?_
  intro g L ok'
  show HT _ [some _] _ _ _
  refine execs_cons_ ?_
  repeat ktr_units
  refine get_ ok' hx hd (sg_pg_count _) (sg_hd _) (sg_fi_count _) rfl sp_g_count rfl ?_
  refine shlN_ (by omega) (by omega) fun _ => ?_
  repeat ktr_units
  refine subN_ ?_ h
  rw [Nat.shiftLeft_eq]; have := Nat.two_pow_pos c; omega
theorem w_Signatures (ok : F.Ok) (hlv : F.lv < 34) {wl : Addr} {ow : Obj} {words : List Nat} (ha : AgOk A R nodes inputs) (hwm : (wl, ow) ∈ R) (hw : IL ow words) (hpc : pc words ≤ 1000) (hwl : words.length ≤ 1000)
    (h : ∀ (x : Addr) (S : Sg), S.Is F.w (Sd.fresh nodes inputs ⟨rw0 words (1 <<< pc words - 1) inputs.length, [], [], pc words, []⟩) → Q (.ref x) vs (S.led F.w A x R)) :
    HT F vs ((A.g, instObj 116 A.dg) :: (A.dg, dictOf (aigE F.w.params A.T (.ref A.nl) (.ref A.il) A.vo A.vt) A.n) :: (A.nl, A.oN) :: (A.il, A.oI) :: R) (call (.ref 439) [.ref A.g, .ref wl]) Q := by
  have hsi := ha.si
  refine new_ ok k_Signatures__init (ps := [Str.ofString "self", Str.ofString "aig", Str.ofString "words"]) (ls := [Str.ofString "place"]) (sg_mk _) (sg_in _) (sg_if _) (fun _ => rfl) rfl rfl (by omega) fun x dx hdx => ?_
  intro g L ok'
  show HT _ [some _, some _, some _, none] _ _ _
  refine execs_cons_ ?_
  repeat ktr_units
  refine setT_ ok' (x := x) (dx := dx) (by k_mem) (by tb_start) (sg_sa _) (sg_po _) (sg_tk_aig _) (sg_hd _) (by kernel_rfl) (fun t => sg_n0 t) (fun t => by simp) fun t0 => ?_
  repeat ktr_units
  refine w_pattern_count (F := F.sub g L (F.A.under (Code.builtin "type.__call__" ⟨[.ref 439, .ref A.g, .ref wl], []⟩)) d_Signatures__init 394) ok' (by show F.lv + 1 < 40; omega) (l := wl) (o := ow) (by k_mem) hw fun tc => ?_
  repeat ktr_units
  refine setT_ ok' (x := x) (dx := dx) (by k_mem) (by tb_start) (sg_sa _) (sg_po _) (sg_tk_count _) (sg_hd _) (by kernel_rfl) (fun t => sg_n1 t) (fun t => by simp) fun t1 => ?_
  refine execs_cons_ ?_
  repeat ktr_units
  refine setT_ ok' (x := x) (dx := dx) (by k_mem) (by tb_start) (sg_sa _) (sg_po _) (sg_tk_rows _) (sg_hd _) (by kernel_rfl) (fun t => sg_n2 t) (fun t => by simp) fun t2 => ?_
  rename_i rl hrl
  refine execs_cons_ ?_
  refine forR_ ok' (n := inputs.length) (j := 3) rfl (by omega) (fun i vs' D' => ∃ u3 oR, vs' = [some (.ref x), some (.ref A.g), some (.ref wl), u3] ∧ IL oR (rw0 words (1 <<< pc words - 1) i) ∧
    D' = (rl, oR) :: (x, instObj 439 dx) :: (dx, dictOf (sigP F.w.params t0 t1 t2 (.ref A.g) (VN (pc words) tc) (.ref rl)) 3) :: (A.g, instObj 116 A.dg) :: (A.dg, dictOf (aigE F.w.params A.T (.ref A.nl) (.ref A.il) A.vo A.vt) A.n) :: (A.nl, A.oN) :: (A.il, A.oI) :: R) ?_ ?_ ?_
  · repeat ktr_units
    refine ag_get_inputs ok' (by k_mem) (by k_mem) rfl ?_
    repeat ktr_units
    refine len_il (by k_mem) ha.I (by omega) fun _ => ?_
    repeat ktr_units
    refine range1_ fun r t1 t2 hr => ?_
    exact ⟨_, _, _, _, _, rfl, rfl, _, _, rfl, ⟨[], 0, rfl, .nil⟩, rfl⟩
  · rintro i t _ _ E hi ⟨u3, oR, rfl, hR, rfl⟩
    have hrl := rw0_len words (1 <<< pc words - 1) i
    show HT _ [_, _, _, _] ((_, _) :: (_, _) :: (_, _) :: (_, _) :: (_, _) :: (_, _) :: (_, _) :: (R ++ E)) _ _
    refine execs_cons_ ?_
    repeat ktr_units
    refine get_ ok' (x := x) (dx := dx) (by k_mem) (by k_mem) (sg_pg_rows _) (sg_hd _) (sg_fi_rows _) rfl sp_g_rows rfl ?_
    refine appendIL_m (by k_mem) hR ?_
    repeat ktr_units
    refine len_il (by k_mem) hw (by omega) fun _ => ?_
    repeat ktr_units
    refine bite (fun e => ?_) fun e => ?_
    · have e := of_decide_eq_true e
      repeat ktr_units
      refine tail_il (by k_mem) hw (getD_some e) (by omega) fun _ => ?_
      repeat ktr_units
      refine meth_ ok' (x := x) (dx := dx) (by k_mem) (by k_mem) (sg_mp_mask _) (sg_mf_mask _) (sg_mn_mask _) sp_g_mask ?_
      repeat ktr_units
      refine w_mask0 (F := F.sub g L (F.A.under (Code.builtin "type.__call__" ⟨[.ref 439, .ref A.g, .ref wl], []⟩)) d_Signatures__init 394) (t0 := t0) (t1 := t1) (t2 := t2) (t := tc) (va := .ref A.g) (vr := .ref rl) (n := 3) ok' (by show F.lv + 1 < 40; omega) (x := x) (dx := dx) (by k_mem) (by k_mem) hpc fun _ => ?_
      repeat ktr_units
      refine append_il (by tb_start) hR (by simp only [sizeLine]; omega) fun o' ho' => ?_
      refine ⟨by simp, ?_⟩
      repeat ktr_units
      exact ⟨_, rfl, _, o', rfl, by rw [rw0_succ, if_pos e]; exact ho', rfl⟩
    · have e := of_decide_eq_false e
      repeat ktr_units
      refine append_il (by tb_start) hR (by simp only [sizeLine]; omega) fun o' ho' => ?_
      refine ⟨by simp, ?_⟩
      repeat ktr_units
      exact ⟨_, rfl, _, o', rfl, by rw [rw0_succ, if_neg e]; exact ho', rfl⟩
  · rintro _ _ ⟨u3, oR, rfl, hR, rfl⟩
    repeat ktr_units
    refine setT_ ok' (x := x) (dx := dx) (by k_mem) (by tb_start) (sg_sa _) (sg_po _) (sg_tk_kept _) (sg_hd _) (by kernel_rfl) (fun t => sg_n3 t) (fun t => by simp) fun t3 => ?_
    rename_i kl hkl
    repeat ktr_units
    refine setT_ ok' (x := x) (dx := dx) (by k_mem) (by tb_start) (sg_sa _) (sg_po _) (sg_tk_values _) (sg_hd _) (by kernel_rfl) (fun t => sg_n4 t) (fun t => by simp) fun t4 => ?_
    rename_i vl hvl
    repeat ktr_units
    refine setT_ ok' (x := x) (dx := dx) (by k_mem) (by tb_start) (sg_sa _) (sg_po _) (sg_tk_classes _) (sg_hd _) (by kernel_rfl) (fun t => sg_n5 t) (fun t => by simp) fun t5 => ?_
    rename_i cl oC hcl hoC
    let S : Sg := ⟨dx, rl, kl, vl, cl, fun | 0 => t0 | 1 => t1 | 2 => t2 | 3 => t3 | 4 => t4 | _ => t5, tc, 6, pc words, oR, W.listOf [].toArray 0, W.listOf [].toArray 0, oC, []⟩
    refine HT.le (D' := S.led F.w A x R) ?_ ?_
    · repeat ktr_units
      refine sg_m_refresh ok' (x := x) (by k_mem) (by k_mem) ?_
      repeat ktr_units
      refine w_refresh (F := F.sub g L (F.A.under (Code.builtin "type.__call__" ⟨[.ref 439, .ref A.g, .ref wl], []⟩)) d_Signatures__init 394) (S := S) (P := ⟨rw0 words (1 <<< pc words - 1) inputs.length, [], [], pc words, []⟩) ok' (by show F.lv + 1 < 36; omega) ha hR ⟨[], 0, rfl, .nil⟩ rfl hpc (by rw [rw0_len]) (by simp) (fun k hk => by simp at hk) fun S' hS' => ?_
      refine ⟨by simp, ?_⟩
      repeat ktr_units
      exact ⟨rfl, h x S' hS'⟩
    · exact Le.pick (.tail (.tail (.tail (.tail .head)))) (Le.pick (.tail (.tail (.tail (.tail .head)))) (Le.pick (.tail (.tail (.tail (.tail .head)))) (Le.pick (.tail (.tail (.tail (.tail .head)))) (Le.pick (.tail (.tail (.tail (.tail .head)))) (Le.pick (.tail (.tail (.tail (.tail .head))))
        (Le.pick (.tail (.tail (.tail .head))) (Le.pick (.tail (.tail .head)) (Le.pick (.tail .head) (Le.pick .head (Le.refl _))))))))))
end
-- W19
noncomputable def lcolk (i : Nat) : Nat → Nat
  | 0 => (1 <<< (1 <<< i) - 1) <<< (1 <<< i)
  | k + 1 => lcolk i k ||| lcolk i k <<< (1 <<< (i + 1 + k))
/-- the column of input i of n -/
noncomputable def lcol (i n : Nat) : Nat := lcolk i (n - (i + 1))
theorem lcol_bit : ∀ n < 4, ∀ i < n, ∀ m < 2 ^ n, (lcol i n).testBit m = m.testBit i := by decide +kernel
theorem lcol_lt : ∀ n < 4, ∀ i < n, lcol i n < 2 ^ 2 ^ n := by decide +kernel
theorem lcolk_lt : ∀ i < 3, ∀ k < 3, lcolk i k < 2 ^ 64 := by decide +kernel
section
variable {F : Fx} {vs : List (Option Value)} {D D' R : Led}
variable {Q : Value → List (Option Value) → Led → Prop}
theorem w_law_column (ok : F.Ok) (hlv : F.lv < 38) {i n : Nat} {t1 t2 : Tok} (hi : i < n) (hn : n ≤ 3) (h : ∀ t, Q (VN (lcol i n) t) vs D) : HT F vs D (call (.ref 492) [VN i t1, VN n t2]) Q := by
  have h1 : 1 <<< i ≤ 8 := by rw [Nat.shiftLeft_eq, Nat.one_mul]; exact Nat.pow_le_pow_right (n := 2) (j := 3) (by omega) (by omega)
  have h2 : 1 <<< (1 <<< i) < 2 ^ 64 := by rw [Nat.shiftLeft_eq 1, Nat.one_mul]; exact Nat.pow_lt_pow_right (by omega) (by omega)
  refine callP_ ok k_law_column (ps := [Str.ofString "i", Str.ofString "n"]) (ls := [Str.ofString "column", Str.ofString "j"]) rfl rfl rfl (by omega) ?_
  intro g L ok'
  show HT _ [some _, some _, none, none] _ _ _
  refine execs_cons_ ?_
  repeat ktr_units
  refine shlN_ (by omega) (by omega) fun _ => ?_
  repeat ktr_units
  refine shlN_ (by omega) (by omega) fun _ => ?_
  repeat ktr_units
  refine subN_ (by rw [Nat.shiftLeft_eq]; have := Nat.two_pow_pos (1 <<< i); omega) fun _ => ?_
  repeat ktr_units
  refine shlN_ (by omega) (by omega) fun _ => ?_
  repeat ktr_units
  refine shlN_ (by omega) (by omega) fun t => ?_
  refine store_ ok' (by tb_rel) ?_
  refine execs_cons_ ?_
  refine forRa_ ok' (a := i + 1) (b := n) (j := 3) rfl (by omega) (by omega) (fun k vs' D' => ∃ u3 t, vs' = [some (VN i t1), some (VN n t2), some (VN (lcolk i k) t), u3] ∧ D' = D) ?_ ?_ ?_
  · repeat ktr_units
    refine range2_ fun r t3 hr => ?_
    exact ⟨_, _, _, _, _, rfl, rfl, none, t, rfl, rfl⟩
  · rintro k t _ _ E hk ⟨u3, tc, rfl, rfl⟩
    have hb := lcolk_lt i (by omega) k (by omega)
    have h3 : 1 <<< (i + 1 + k) ≤ 8 := by rw [Nat.shiftLeft_eq, Nat.one_mul]; exact Nat.pow_le_pow_right (n := 2) (j := 3) (by omega) (by omega)
    show HT _ [_, _, _, _] _ _ _
    refine execs_cons_ ?_
    repeat ktr_units
    refine shlN_ (by omega) (by omega) fun _ => ?_
    repeat ktr_units
    refine shlN_ (by omega) (by omega) fun _ => ?_
    repeat ktr_units
    exact ⟨_, rfl, _, _, rfl, rfl⟩
  · rintro _ _ ⟨u3, tc, rfl, rfl⟩
    repeat ktr_units
    exact h _
end
-- P8
noncomputable def asg (n m : Nat) : Pat := fun k => decide (1 ≤ k ∧ k ≤ n) && m.testBit (k - 1)
noncomputable def insL (n : Nat) : List Nat := (List.range n).map (· + 1)
theorem insL_len (n : Nat) : (insL n).length = n := by simp [insL]
theorem insL_mem {n k : Nat} : k ∈ insL n ↔ 1 ≤ k ∧ k ≤ n := by
  simp only [insL, List.mem_map, List.mem_range]
  constructor
  · rintro ⟨i, hi, rfl⟩; omega
  · intro h; exact ⟨k - 1, by omega, by omega⟩
theorem insL_get {n i : Nat} (h : i < n) : (insL n).getD i 0 = i + 1 := by
  simp [insL, List.getD_eq_getElem?_getD, List.getElem?_range, h]
theorem insL_succ (n : Nat) : insL (n + 1) = insL n ++ [n + 1] := by simp [insL, List.range_succ]
noncomputable def fu (n : Nat) : Nat := 1 <<< (1 <<< n) - 1
theorem fu_bit (n j : Nat) : (fu n).testBit j = decide (j < 2 ^ n) := by rw [fu, two_pow_sub_bit, Nat.shiftLeft_eq, Nat.one_mul]
theorem fu_lt (n : Nat) : fu n < 2 ^ 2 ^ n := by rw [fu, Nat.shiftLeft_eq 1 n, Nat.one_mul]; exact mask_lt _
theorem asg_zero (n m : Nat) : asg n m 0 = false := by simp [asg]
/-- the column of a literal -/
noncomputable def lcl (cols : List Nat) (n l : Nat) : Nat := cols.getD (l >>> 1) 0 ^^^ (if l &&& 1 = 1 then fu n else 0)
structure LI (n : Nat) (ns : List (Option (Nat × Nat))) (cols kept : List Nat) : Prop where
  G : Gr ns
  I : GrI ns (insL n)
  lc : cols.length = ns.length
  cb : ∀ k < ns.length, ∀ m < 2 ^ n, (cols.getD k 0).testBit m = bv ns (asg n m) k
  cl : ∀ k < ns.length, cols.getD k 0 < 2 ^ 2 ^ n
  kd : ∀ a ∈ kept, ∀ b ∈ kept, (cols.getD a 0 = cols.getD b 0 ∨ cols.getD a 0 ^^^ fu n = cols.getD b 0) → a = b
  kl : ∀ k ∈ kept, k < ns.length
  ks : ∃ K2, kept = List.range (n + 1) ++ K2 ∧ ∀ k ∈ K2, n < k
theorem lcl_bit {n ns cols kept} (h : LI n ns cols kept) {l : Nat} (hl : l >>> 1 < ns.length) {m : Nat} (hm : m < 2 ^ n) : (lcl cols n l).testBit m = bl' ns (asg n m) l := by
  rw [lcl, Nat.testBit_xor, h.cb _ hl m hm, bl']
  by_cases e : l &&& 1 = 1
  · rw [if_pos e, fu_bit, decide_eq_true e]; simp [hm]
  · rw [if_neg e, decide_eq_false e]; simp
theorem lcl_lt {n ns cols kept} (h : LI n ns cols kept) {l : Nat} (hl : l >>> 1 < ns.length) : lcl cols n l < 2 ^ 2 ^ n := by
  rw [lcl]
  refine Nat.xor_lt_two_pow (h.cl _ hl) ?_
  split
  · exact fu_lt n
  · exact Nat.two_pow_pos _
theorem eq_cols {n a b : Nat} (ha : a < 2 ^ 2 ^ n) (hb : b < 2 ^ 2 ^ n) (h : ∀ m < 2 ^ n, a.testBit m = b.testBit m) : a = b := eq_of_bits ha hb h
theorem sh1 (a : Nat) : (2 * a) >>> 1 = a := by rw [Nat.shiftRight_eq_div_pow]; omega
theorem sh2 (a : Nat) : (2 * a + 1) >>> 1 = a := by rw [Nat.shiftRight_eq_div_pow]; omega
theorem od1 (a : Nat) : decide ((2 * a) &&& 1 = 1) = false := by rw [Nat.and_one_is_mod]; simp
theorem od2 (a : Nat) : decide ((2 * a + 1) &&& 1 = 1) = true := by rw [Nat.and_one_is_mod]; simp
section
variable {n : Nat} {ns : List (Option (Nat × Nat))} {cols kept : List Nat} {one two : Nat}
/-- the pair and the column of a new node -/
noncomputable abbrev prOf (one two : Nat) : Nat × Nat := (min one two, max one two)
noncomputable def ncl (cols : List Nat) (n one two : Nat) : Nat := lcl cols n one &&& lcl cols n two
theorem minmax (one two : Nat) : (min one two = one ∧ max one two = two) ∨ (min one two = two ∧ max one two = one) := by omega
theorem wf_snoc (h : WfN ns) {l r : Nat} (hl : l >>> 1 < ns.length) (hr : r >>> 1 < ns.length) : WfN (ns ++ [some (l, r)]) := by
  intro k a b hk
  rw [List.getElem?_append] at hk
  split at hk
  · exact h k a b hk
  · rename_i hge
    cases hj : k - ns.length with
    | zero => rw [hj] at hk; simp at hk; omega
    | succ j => rw [hj] at hk; simp at hk
theorem LI.step (h : LI n ns cols kept) (h1 : one >>> 1 < ns.length) (h2 : two >>> 1 < ns.length) (h3 : 2 ≤ min one two) (hz : ns.length < 63) : LI n (ns ++ [some (prOf one two)]) (cols ++ [ncl cols n one two]) kept := by
  have hm1 : (min one two) >>> 1 < ns.length := by rcases minmax one two with ⟨e, _⟩ | ⟨e, _⟩ <;> rw [e] <;> assumption
  have hm2 : (max one two) >>> 1 < ns.length := by rcases minmax one two with ⟨_, e⟩ | ⟨_, e⟩ <;> rw [e] <;> assumption
  have hw : WfN (ns ++ [some (prOf one two)]) := wf_snoc h.G.wf hm1 hm2
  have hlc := h.lc
  have hpos : 0 < ns.length := by have := h.ks; have := h.kl; obtain ⟨K2, e, _⟩ := h.ks; exact Nat.lt_of_le_of_lt (Nat.zero_le _) (h.kl 0 (by rw [e]; simp))
  have hnl : (ns ++ [some (prOf one two)]).length = ns.length + 1 := by simp
  have hcd : ∀ k < ns.length, (cols ++ [ncl cols n one two]).getD k 0 = cols.getD k 0 := fun k hk => by rw [getD_snoc, if_pos (by omega)]
  have hcn : (cols ++ [ncl cols n one two]).getD ns.length 0 = ncl cols n one two := by rw [getD_snoc, if_neg (by omega), if_pos (by omega)]
  have hx : (ns ++ [some (prOf one two)])[ns.length]? = some (some (prOf one two)) := by simp
  have hgn : (ns ++ [some (prOf one two)]).getD ns.length none = some (prOf one two) := by rw [List.getD_eq_getElem?_getD, hx]; rfl
  have hbl : ∀ leaf l, l >>> 1 < ns.length → bl' (ns ++ [some (prOf one two)]) leaf l = bl' ns leaf l := fun leaf l hl => by rw [bl', bl', bv_app hw hl]
  refine ⟨⟨hw, ?_, by omega, ?_, ?_⟩, ⟨h.I.nd, fun i hi => ?_, fun k hk e => ?_, h.I.k4⟩, by simp [hlc], fun k hk m hm => ?_, fun k hk => ?_, fun a ha b hb he => ?_, fun k hk => ?_, h.ks⟩
  · rw [getD_app hpos]; exact h.G.h0
  · intro k p q hk
    rw [List.getElem?_append] at hk
    split at hk
    · exact h.G.pos k p q hk
    · cases hj : k - ns.length with
      | zero =>
        rw [hj] at hk
        simp only [List.getElem?_cons_zero, Option.some.injEq, Prod.mk.injEq] at hk
        obtain ⟨e1, e2⟩ := hk
        rw [Nat.shiftRight_eq_div_pow, Nat.shiftRight_eq_div_pow]
        omega
      | succ j => rw [hj] at hk; simp at hk
  · intro ins hnd hin
    refine h.G.ins ins hnd fun k hk => ?_
    obtain ⟨z1, z2, z3⟩ := hin k hk
    have hkl : k < ns.length := by
      refine Classical.byContradiction fun hc => ?_
      have e : k = ns.length := by omega
      rw [e, hgn] at z3; cases z3
    exact ⟨z1, hkl, by rw [← getD_app hkl]; exact z3⟩
  · have := h.I.lt i hi
    exact ⟨this.1, by omega⟩
  · by_cases hkl : k < ns.length
    · exact h.I.leaf k hkl (by rw [← getD_app hkl]; exact e)
    · have e2 : k = ns.length := by omega
      rw [e2, hgn] at e; cases e
  · by_cases hkl : k < ns.length
    · rw [hcd k hkl, bv_app hw hkl]; exact h.cb k hkl m hm
    · have e2 : k = ns.length := by omega
      rw [e2, hcn, bv_some hw hx, ncl, Nat.testBit_and, lcl_bit h h1 hm, lcl_bit h h2 hm, hbl _ _ hm1, hbl _ _ hm2]
      rcases minmax one two with ⟨e3, e4⟩ | ⟨e3, e4⟩
      · rw [e3, e4]
      · rw [e3, e4, Bool.and_comm]
  · by_cases hkl : k < ns.length
    · rw [hcd k hkl]; exact h.cl k hkl
    · have e2 : k = ns.length := by omega
      rw [e2, hcn, ncl]
      exact Nat.lt_of_le_of_lt Nat.and_le_left (lcl_lt h h1)
  · rw [hcd a (h.kl a ha), hcd b (h.kl b hb)] at he
    exact h.kd a ha b hb he
  · have := h.kl k hk; omega
end
-- P9
section
variable {n : Nat} {ns : List (Option (Nat × Nat))} {cols kept : List Nat} {one two : Nat}
/-- the loop that seeks the match -/
noncomputable def mstep (cols : List Nat) (n col : Nat) (mt : Int) (k : Nat) : Int := if cols.getD k 0 = col then ((2 * k : Nat) : Int) else if cols.getD k 0 ^^^ fu n = col then ((2 * k + 1 : Nat) : Int) else mt
noncomputable def mtch (cols : List Nat) (n col : Nat) (l : List Nat) : Int := l.foldl (mstep cols n col) (-1)
theorem mtch_none {col : Nat} {l : List Nat} (h : ∀ k ∈ l, cols.getD k 0 ≠ col ∧ cols.getD k 0 ^^^ fu n ≠ col) : mtch cols n col l = -1 := by
  unfold mtch
  suffices hh : ∀ z, l.foldl (mstep cols n col) z = z from hh _
  induction l with
  | nil => intro z; rfl
  | cons k l ih =>
    intro z
    rw [List.foldl_cons]
    have := h k (.head _)
    rw [mstep, if_neg this.1, if_neg this.2]
    exact ih (fun k hk => h k (.tail _ hk)) z
theorem mtch_some {col other sgn : Nat} {l : List Nat} (ho : other ∈ l) (hz : mstep cols n col (-1) other = ((2 * other + sgn : Nat) : Int)) (hh : ∀ z, mstep cols n col z other = mstep cols n col (-1) other)
    (h : ∀ k ∈ l, k ≠ other → cols.getD k 0 ≠ col ∧ cols.getD k 0 ^^^ fu n ≠ col) : mtch cols n col l = ((2 * other + sgn : Nat) : Int) := by
  unfold mtch
  suffices hq : ∀ z, (other ∈ l ∨ z = ((2 * other + sgn : Nat) : Int)) → l.foldl (mstep cols n col) z = ((2 * other + sgn : Nat) : Int) from hq _ (.inl ho)
  clear ho
  induction l with
  | nil => intro z hz; rcases hz with h | h; cases h; exact h
  | cons k l ih =>
    intro z hz'
    rw [List.foldl_cons]
    refine ih (fun k hk => h k (.tail _ hk)) _ ?_
    by_cases e : k = other
    · subst e; exact .inr (by rw [hh]; exact hz)
    · have := h k (.head _) e
      rw [mstep, if_neg this.1, if_neg this.2]
      rcases hz' with hm | hm
      · rcases List.mem_cons.mp hm with q | q
        · exact (e q.symm).elim
        · exact .inl q
      · exact .inr hm
theorem fu_pos (n : Nat) : (fu n).testBit 0 = true := by rw [fu_bit]; simp [Nat.two_pow_pos]
theorem xor_ne (a n : Nat) : a ^^^ fu n ≠ a := fun e => by
  have := congrArg (fun z : Nat => z.testBit 0) e
  simp only [Nat.testBit_xor, fu_pos] at this
  cases h : a.testBit 0 <;> rw [h] at this <;> simp at this
theorem xor_back (a b n : Nat) (h : a ^^^ fu n = b) : b ^^^ fu n = a := by rw [← h, Nat.xor_assoc, Nat.xor_self, Nat.xor_zero]
/-- the search's word found: the law's match is the same literal -/
theorem match_hit (h : LI n ns cols kept) (h1 : one >>> 1 < ns.length) (h2 : two >>> 1 < ns.length) (h' : LI n (ns ++ [some (prOf one two)]) (cols ++ [ncl cols n one two]) kept) {other sgn : Nat} (ho : other ∈ kept) (hs : sgn ≤ 1)
    (he : ∀ leaf : Pat, leaf 0 = false → bl' (ns ++ [some (prOf one two)]) leaf (2 * ns.length) = bl' (ns ++ [some (prOf one two)]) leaf (2 * other + sgn)) : mtch (cols ++ [ncl cols n one two]) n (ncl cols n one two) kept = ((2 * other + sgn : Nat) : Int) := by
  have hlc := h.lc
  have hol := h.kl other ho
  have hcn : (cols ++ [ncl cols n one two]).getD ns.length 0 = ncl cols n one two := by rw [getD_snoc, if_neg (by omega), if_pos (by omega)]
  have hnl : (ns ++ [some (prOf one two)]).length = ns.length + 1 := by simp
  have hb : ∀ m < 2 ^ n, (ncl cols n one two).testBit m = (((cols ++ [ncl cols n one two]).getD other 0).testBit m ^^ decide (sgn = 1)) := fun m hm => by
    have q := he (asg n m) (asg_zero n m)
    rw [bl', bl', sh1, od1, Bool.xor_false, ← h'.cb _ (by omega) m hm, hcn] at q
    rw [q]
    match sgn, hs with
    | 0, _ => rw [Nat.add_zero, sh1, od1, ← h'.cb _ (by omega) m hm]; rfl
    | 1, _ => rw [sh2, od2, ← h'.cb _ (by omega) m hm]; rfl
  have hlt := h'.cl ns.length (by omega)
  rw [hcn] at hlt
  have hol' := h'.cl other (by omega)
  have hkd : ∀ k ∈ kept, k ≠ other → ∀ c, c = (cols ++ [ncl cols n one two]).getD other 0 ∨ c = (cols ++ [ncl cols n one two]).getD other 0 ^^^ fu n → (cols ++ [ncl cols n one two]).getD k 0 ≠ c ∧ (cols ++ [ncl cols n one two]).getD k 0 ^^^ fu n ≠ c := fun k hk hne c hc => by
    refine ⟨fun e => hne (h'.kd k hk other ho ?_), fun e => hne (h'.kd k hk other ho ?_)⟩
    · rcases hc with hc | hc
      · exact .inl (e.trans hc)
      · exact .inr (xor_back _ _ _ ((e.trans hc).symm))
    · rcases hc with hc | hc
      · exact .inr (e.trans hc)
      · refine .inl ?_
        have := congrArg (· ^^^ fu n) (e.trans hc)
        simpa [Nat.xor_assoc] using this
  match sgn, hs, hb with
  | 0, _, hb =>
    have e : (cols ++ [ncl cols n one two]).getD other 0 = ncl cols n one two := (eq_cols hlt hol' fun m hm => by rw [hb m hm]; simp).symm
    refine mtch_some ho ?_ (fun z => ?_) fun k hk hne => hkd k hk hne _ (.inl e.symm)
    · rw [mstep, if_pos e]; rfl
    · rw [mstep, mstep, if_pos e, if_pos e]
  | 1, _, hb =>
    have e : (cols ++ [ncl cols n one two]).getD other 0 ^^^ fu n = ncl cols n one two := (eq_cols hlt (Nat.xor_lt_two_pow hol' (fu_lt n)) fun m hm => by rw [hb m hm, Nat.testBit_xor, fu_bit]; simp [hm]).symm
    have ne : (cols ++ [ncl cols n one two]).getD other 0 ≠ ncl cols n one two := fun q => xor_ne _ n (e.trans q.symm)
    refine mtch_some ho ?_ (fun z => ?_) fun k hk hne => hkd k hk hne _ (.inr e.symm)
    · rw [mstep, if_neg ne, if_pos e]
    · rw [mstep, mstep, if_neg ne, if_neg ne, if_pos e, if_pos e]
/-- two nodes part under some pattern, up to the sign -/
noncomputable def dif (ns : List (Option (Nat × Nat))) (pats : List Pat) (a b : Nat) : Prop := ∃ j < pats.length, (bv ns (pat pats j) a ^^ bv ns (pat pats 0) a) ≠ (bv ns (pat pats j) b ^^ bv ns (pat pats 0) b)
theorem dif.symm {pats : List Pat} {a b : Nat} (h : dif ns pats a b) : dif ns pats b a := let ⟨j, h1, h2⟩ := h; ⟨j, h1, h2.symm⟩
theorem pat_pre {base pats : List Pat} (h : base <+: pats) {j : Nat} (hj : j < base.length) : pat pats j = pat base j := by
  obtain ⟨t, rfl⟩ := h
  rw [pat, pat, List.getD_eq_getElem?_getD, List.getD_eq_getElem?_getD, List.getElem?_append_left hj]
theorem dif.mono {y : Option (Nat × Nat)} (hw : WfN (ns ++ [y])) {base pats : List Pat} (hp : base <+: pats) {a b : Nat} (ha : a < ns.length) (hb : b < ns.length) (h : dif ns base a b) : dif (ns ++ [y]) pats a b := by
  obtain ⟨j, hj, hne⟩ := h
  have hl := hp.length_le
  refine ⟨j, by omega, ?_⟩
  rw [pat_pre hp hj, pat_pre hp (show 0 < base.length by omega), bv_app hw ha, bv_app hw ha, bv_app hw hb, bv_app hw hb]
  exact hne
theorem vals_lt {ns inputs P pats} (hM : Mng ns inputs P pats) {k : Nat} (hk : k < ns.length) : P.vals.getD k 0 < 2 ^ P.c := Nat.lt_pow_two_of_testBit _ fun j hj => by
  rw [hM.vb k hk, hM.c] at *
  simp; intro h; omega
theorem dif_iff {ns inputs P pats} (hM : Mng ns inputs P pats) {a b : Nat} (ha : a < ns.length) (hb : b < ns.length) : nrm (P.vals.getD a 0) P.c ≠ nrm (P.vals.getD b 0) P.c ↔ dif ns pats a b := by
  have hc := hM.c
  have hc1 := hM.c1
  rw [Ne, nrm_eq (vals_lt hM ha) (vals_lt hM hb)]
  constructor
  · intro h
    refine Classical.byContradiction fun hn => h fun j hj => ?_
    have := Classical.not_not.mp fun q => hn ⟨j, by omega, q⟩
    rw [hM.vb a ha, hM.vb a ha, hM.vb b hb, hM.vb b hb]
    have e1 : decide (j < pats.length) = true := decide_eq_true (by omega)
    have e2 : decide (0 < pats.length) = true := decide_eq_true (by omega)
    rw [e1, e2]
    simpa using this
  · rintro ⟨j, hj, hne⟩ h
    refine hne ?_
    have := h j (by omega)
    rw [hM.vb a ha, hM.vb a ha, hM.vb b hb, hM.vb b hb] at this
    have e1 : decide (j < pats.length) = true := decide_eq_true (by omega)
    have e2 : decide (0 < pats.length) = true := decide_eq_true (by omega)
    rw [e1, e2] at this
    simpa using this
/-- each pattern is an assignment -/
theorem pat_asg {ns P pats} (hM : Mng ns (insL n) P pats) (j : Nat) : ∃ m < 2 ^ n, pat pats j = asg n m := by
  obtain ⟨m, hm, hb⟩ := bits_ex (fun i => pat pats j (i + 1)) n
  refine ⟨m, hm, funext fun k => ?_⟩
  by_cases hk : k ∈ insL n
  · obtain ⟨h1, h2⟩ := insL_mem.mp hk
    rw [asg, decide_eq_true ⟨h1, h2⟩, hb (k - 1) (by omega)]
    simp only [Bool.true_and]
    congr 1; omega
  · rw [hM.pz j k hk, asg, decide_eq_false (fun q => hk (insL_mem.mpr q))]; rfl
/-- no kept word: the law finds no match -/
theorem match_miss (h' : LI n (ns ++ [some (prOf one two)]) (cols ++ [ncl cols n one two]) kept) (hlc : cols.length = ns.length) (hkl : ∀ k ∈ kept, k < ns.length) {P : Sd} {pats : List Pat} (hM : Mng (ns ++ [some (prOf one two)]) (insL n) P pats)
    (he : ∀ k ∈ kept, nrm (P.vals.getD k 0) P.c ≠ nrm (P.vals.getD ns.length 0) P.c) : (∀ k ∈ kept, (cols ++ [ncl cols n one two]).getD k 0 ≠ ncl cols n one two ∧ (cols ++ [ncl cols n one two]).getD k 0 ^^^ fu n ≠ ncl cols n one two) := by
  intro k hk
  have hcn : (cols ++ [ncl cols n one two]).getD ns.length 0 = ncl cols n one two := by rw [getD_snoc, if_neg (by omega), if_pos (by omega)]
  have hnl : (ns ++ [some (prOf one two)]).length = ns.length + 1 := by simp
  have hkk := hkl k hk
  obtain ⟨j, hj, hne⟩ := (dif_iff hM (by omega) (by omega)).mp (he k hk)
  obtain ⟨m, hm, em⟩ := pat_asg hM j
  obtain ⟨m0, hm0, em0⟩ := pat_asg hM 0
  rw [em, em0, ← h'.cb _ (by omega) m hm, ← h'.cb _ (by omega) m0 hm0, ← h'.cb _ (by omega) m hm, ← h'.cb _ (by omega) m0 hm0, hcn] at hne
  constructor
  · intro e; rw [e] at hne; exact hne rfl
  · intro e
    have q : ∀ c1 c2 : Nat, c1 ^^^ fu n = c2 → (c1.testBit m ^^ c1.testBit m0) = (c2.testBit m ^^ c2.testBit m0) := fun c1 c2 e => by
      rw [← e, Nat.testBit_xor, Nat.testBit_xor, fu_bit, fu_bit, decide_eq_true hm, decide_eq_true hm0]
      cases c1.testBit m <;> cases c1.testBit m0 <;> rfl
    exact hne (q _ _ e)
end
-- P10
structure LP (n : Nat) (ns : List (Option (Nat × Nat))) (kept : List Nat) (P : Sd) (pats : List Pat) (first : Nat) : Prop where
  M : Mng ns (insL n) P pats
  K : P.kept = kept
  d : Dst first pats
  b : P.c + (fr (insL n) pats).length ≤ 100
  df : ∀ a ∈ kept, ∀ b ∈ kept, a ≠ b → n < a → dif ns pats a b
noncomputable def cols0 (n : Nat) : List Nat := 0 :: (List.range n).map fun i => lcol i n
theorem cols0_kd2 : ∀ a < 3, ∀ b < 3, ((cols0 2).getD a 0 = (cols0 2).getD b 0 ∨ (cols0 2).getD a 0 ^^^ fu 2 = (cols0 2).getD b 0) → a = b := by decide +kernel
theorem cols0_kd3 : ∀ a < 4, ∀ b < 4, ((cols0 3).getD a 0 = (cols0 3).getD b 0 ∨ (cols0 3).getD a 0 ^^^ fu 3 = (cols0 3).getD b 0) → a = b := by decide +kernel
theorem rep_get {k n : Nat} : (List.replicate n (none : Option (Nat × Nat))).getD k none = none := by
  rw [List.getD_eq_getElem?_getD, List.getElem?_replicate]; split <;> rfl
theorem rep_pair {k n l r : Nat} : (List.replicate n (none : Option (Nat × Nat)))[k]? ≠ some (some (l, r)) := by
  rw [List.getElem?_replicate]; split <;> simp
theorem cols0_get {n i : Nat} (h : i < n) : (cols0 n).getD (i + 1) 0 = lcol i n := by
  simp [cols0, List.getD_eq_getElem?_getD, h]
theorem LI0 {n : Nat} (h2 : 2 ≤ n) (h3 : n ≤ 3) : LI n (List.replicate (n + 1) none) (cols0 n) (List.range (n + 1)) := by
  refine ⟨⟨fun k l r h => (rep_pair h).elim, rep_get, by simp; omega, fun k p q h => (rep_pair h).elim, fun ins hnd hin => ?_⟩, ⟨?_, fun i hi => ?_, fun k hk _ => ?_, by rw [insL_len]; omega⟩, by simp [cols0], fun k hk m hm => ?_, fun k hk => ?_, fun a ha b hb he => ?_, fun k hk => by simpa using hk, [], by simp, by simp⟩
  · have := hnd.length_le_of_subset (l₂ := insL n) fun k hk => insL_mem.mpr (by have := hin k hk; simp at this; omega)
    rw [insL_len] at this; omega
  · rw [insL]
    exact List.Pairwise.map _ (fun a b (h : a ≠ b) (e : a + 1 = b + 1) => h (by omega)) List.nodup_range
  · have := insL_mem.mp hi
    simp; omega
  · rw [List.length_replicate] at hk
    by_cases e : k = 0
    · exact .inl e
    · exact .inr (insL_mem.mpr (by omega))
  · rw [List.length_replicate] at hk
    rw [bv_none rep_get]
    match k, hk with
    | 0, _ => rw [asg_zero]; show (0 : Nat).testBit m = false; simp
    | i + 1, hk =>
      rw [cols0_get (by omega), lcol_bit n (by omega) i (by omega) m hm, asg, decide_eq_true (by omega)]
      simp
  · rw [List.length_replicate] at hk
    match k, hk with
    | 0, _ => exact Nat.two_pow_pos _
    | i + 1, hk => rw [cols0_get (by omega)]; exact lcol_lt n (by omega) i (by omega)
  · have ha := List.mem_range.mp ha
    have hb := List.mem_range.mp hb
    rcases (by omega : n = 2 ∨ n = 3) with rfl | rfl
    · exact cols0_kd2 a ha b hb he
    · exact cols0_kd3 a ha b hb he
theorem bl_lt {w : Nat} (h : w < 16) : bl w ≤ 4 := by
  have : ∀ w < 16, bl w ≤ 4 := by decide +kernel
  exact this w h
theorem pc_le {words : List Nat} (h : ∀ w ∈ words, w < 16) : 1 ≤ pc words ∧ pc words ≤ 4 := by
  unfold pc
  suffices hh : ∀ c, 1 ≤ c → c ≤ 4 → 1 ≤ words.foldl (fun c w => max c (bl w)) c ∧ words.foldl (fun c w => max c (bl w)) c ≤ 4 from hh 1 (by omega) (by omega)
  induction words with
  | nil => intro c h1 h2; exact ⟨h1, h2⟩
  | cons w l ih =>
    intro c h1 h2
    have := bl_lt (h w (.head _))
    rw [List.foldl_cons]
    exact ih (fun w hw => h w (.tail _ hw)) _ (by omega) (by omega)
theorem rw0_get {words : List Nat} {m k i : Nat} (h : i < k) : (rw0 words m k).getD i 0 = if i < words.length then words.getD i 0 &&& m else 0 := by
  simp [rw0, List.getD_eq_getElem?_getD, h]
/-- the patterns that the words give -/
noncomputable def pats0 (n : Nat) (words : List Nat) : List Pat := (List.range (pc words)).map fun j k => decide (k ∈ insL n) && ((rw0 words (1 <<< pc words - 1) n).getD (k - 1) 0).testBit j
theorem pats0_len (n : Nat) (words : List Nat) : (pats0 n words).length = pc words := by simp [pats0]
theorem pats0_get {n : Nat} {words : List Nat} {j : Nat} (h : j < pc words) : pat (pats0 n words) j = fun k => decide (k ∈ insL n) && ((rw0 words (1 <<< pc words - 1) n).getD (k - 1) 0).testBit j := by
  simp [pat, pats0, List.getD_eq_getElem?_getD, h]
theorem fr_le (inputs : List Nat) (pats : List Pat) : (fr inputs pats).length ≤ 2 ^ inputs.length := by
  unfold fr
  exact Nat.le_trans (List.length_filter_le _ _) (by simp)
theorem LP0 {n : Nat} (h2 : 2 ≤ n) (h3 : n ≤ 3) {words : List Nat} (hw : ∀ w ∈ words, w < 16) {P : Sd} (hP : P = Sd.fresh (List.replicate (n + 1) none) (insL n) ⟨rw0 words (1 <<< pc words - 1) (insL n).length, [], [], pc words, []⟩) :
    LP n (List.replicate (n + 1) none) (List.range (n + 1)) { P with kept := List.range (n + 1), gs := clsw P.vals P.c (List.range (n + 1)) } (pats0 n words) (pc words) := by
  have hpc := pc_le hw
  have hI := LI0 h2 h3
  have hM : Mng (List.replicate (n + 1) none) (insL n) P (pats0 n words) := by
    subst hP
    refine fresh_sem hI.G.wf hI.I.nd (fun i hi => (hI.I.lt i hi).2) (pats0_len _ _).symm hpc.1 (by rw [rw0_len]) (fun i hi j => ?_) fun j k hk => ?_
    · show ((rw0 words (1 <<< pc words - 1) (insL n).length).getD i 0).testBit j = _
      rw [insL_len] at hi ⊢
      rw [pats0_len, insL_get hi]
      by_cases hj : j < pc words
      · rw [pats0_get hj]
        have hm : i + 1 ∈ insL n := insL_mem.mpr (by omega)
        simp [hj, hm]
      · rw [rw0_get hi]
        have : decide (j < pc words) = false := decide_eq_false hj
        rw [this, Bool.false_and]
        split
        · rw [Nat.testBit_and, two_pow_sub_bit, this, Bool.and_false]
        · simp
    · by_cases hj : j < pc words
      · rw [pats0_get hj]; simp [hk]
      · have : (pats0 n words)[j]? = none := List.getElem?_eq_none (by rw [pats0_len]; omega)
        rw [pat, List.getD_eq_getElem?_getD, this]; rfl
  refine ⟨⟨hM.c, hM.c1, hM.rl, hM.rb, hM.pz, hM.vl, hM.vb, rfl⟩, rfl, fun j h1 h2 => ?_, ?_, fun a ha b hb hne hn => ?_⟩
  · rw [pats0_len] at h2; omega
  · have e : P.c = pc words := by rw [hP]; rfl
    have := fr_le (insL n) (pats0 n words)
    rw [insL_len] at this
    have h8 : 2 ^ n ≤ 2 ^ 3 := Nat.pow_le_pow_right (by omega) h3
    show P.c + _ ≤ 100
    omega
  · have := List.mem_range.mp ha; omega
-- P11
section
variable {n : Nat} {ns : List (Option (Nat × Nat))} {cols kept : List Nat} {one two : Nat} {P P' : Sd} {pats pats' : List Pat} {first : Nat}
/-- the node is merged -/
theorem LP.hit (h : LP n ns kept P pats first) (hkl : ∀ k ∈ kept, k < ns.length) {y} (hw : WfN (ns ++ [y])) (hS : Srch (ns ++ [y]) (insL n) first kept pats P' pats') : LP n (ns ++ [y]) kept P' pats' first :=
  ⟨hS.M, hS.K, hS.d, hS.b, fun a ha b hb hne hn => (h.df a ha b hb hne hn).mono hw hS.pr (hkl a ha) (hkl b hb)⟩
/-- the node is kept -/
theorem LP.miss (h : LP n ns kept P pats first) (hkl : ∀ k ∈ kept, k < ns.length) {y} (hw : WfN (ns ++ [y])) (hS : Srch (ns ++ [y]) (insL n) first kept pats P' pats') (he : ∀ k ∈ kept, nrm (P'.vals.getD k 0) P'.c ≠ nrm (P'.vals.getD ns.length 0) P'.c) :
    LP n (ns ++ [y]) (kept ++ [ns.length]) { P' with kept := kept ++ [ns.length], gs := addg P'.gs (nrm (P'.vals.getD ns.length 0) P'.c) ns.length } pats' first := by
  have hM := hS.M
  have hK := hS.K
  have hnl : (ns ++ [y]).length = ns.length + 1 := by simp
  refine ⟨⟨hM.c, hM.c1, hM.rl, hM.rb, hM.pz, hM.vl, hM.vb, ?_⟩, rfl, hS.d, hS.b, fun a ha b hb hne hn => ?_⟩
  · show addg P'.gs _ _ = clsw P'.vals P'.c (kept ++ [ns.length])
    rw [clsw_snoc, hM.gs, hK]
  · rcases List.mem_append.mp ha with ha | ha
    · rcases List.mem_append.mp hb with hb | hb
      · exact (h.df a ha b hb hne hn).mono hw hS.pr (hkl a ha) (hkl b hb)
      · rw [List.mem_singleton.mp hb]
        exact (dif_iff hM (by have := hkl a ha; omega) (by omega)).mp (he a ha)
    · rw [List.mem_singleton.mp ha] at hne ⊢
      rcases List.mem_append.mp hb with hb | hb
      · exact ((dif_iff hM (by have := hkl b hb; omega) (by omega)).mp (he b hb)).symm
      · exact (hne (List.mem_singleton.mp hb).symm).elim
theorem LI.miss (h : LI n ns cols kept) (h' : LI n (ns ++ [some (prOf one two)]) (cols ++ [ncl cols n one two]) kept) (hm : ∀ k ∈ kept, (cols ++ [ncl cols n one two]).getD k 0 ≠ ncl cols n one two ∧ (cols ++ [ncl cols n one two]).getD k 0 ^^^ fu n ≠ ncl cols n one two) (hn : n < ns.length) :
    LI n (ns ++ [some (prOf one two)]) (cols ++ [ncl cols n one two]) (kept ++ [ns.length]) := by
  have hlc := h.lc
  have hcn : (cols ++ [ncl cols n one two]).getD ns.length 0 = ncl cols n one two := by rw [getD_snoc, if_neg (by omega), if_pos (by omega)]
  obtain ⟨K2, e, hK2⟩ := h.ks
  refine ⟨h'.G, h'.I, h'.lc, h'.cb, h'.cl, fun a ha b hb he => ?_, fun k hk => ?_, K2 ++ [ns.length], by rw [e]; simp, fun k hk => ?_⟩
  · rcases List.mem_append.mp ha with ha | ha
    · rcases List.mem_append.mp hb with hb | hb
      · exact h'.kd a ha b hb he
      · rw [List.mem_singleton.mp hb, hcn] at he
        rcases he with he | he
        · exact ((hm a ha).1 he).elim
        · exact ((hm a ha).2 he).elim
    · rw [List.mem_singleton.mp ha] at he ⊢
      rcases List.mem_append.mp hb with hb | hb
      · rw [hcn] at he
        rcases he with he | he
        · exact ((hm b hb).1 he.symm).elim
        · exact ((hm b hb).2 (xor_back _ _ _ he)).elim
      · exact (List.mem_singleton.mp hb).symm
  · rcases List.mem_append.mp hk with hk | hk
    · exact h'.kl k hk
    · rw [List.mem_singleton.mp hk]; simp
  · rcases List.mem_append.mp hk with hk | hk
    · exact hK2 k hk
    · rw [List.mem_singleton.mp hk]; exact hn
/-- the assignment's number of a pattern -/
noncomputable def msk (rows : List Nat) (bit : Nat) : Nat → Nat
  | 0 => 0
  | i + 1 => msk rows bit i ||| (((rows.getD i 0) >>> bit) &&& 1) <<< i
theorem and1_le (a : Nat) : a &&& 1 ≤ 1 := by rw [Nat.and_one_is_mod]; omega
theorem bit_term (w b i j : Nat) : (((w >>> b) &&& 1) <<< i).testBit j = (decide (j = i) && w.testBit b) := by
  rw [bit_shift (and1_le _)]
  congr 1
  have : (w >>> b) &&& 1 = (w.testBit b).toNat := by
    rw [Nat.testBit, Nat.and_comm]
    have := and1_le (w >>> b)
    rw [Nat.and_comm] at this
    rcases (by omega : 1 &&& w >>> b = 0 ∨ 1 &&& w >>> b = 1) with h | h <;> rw [h] <;> rfl
  rw [this]
  cases w.testBit b <;> rfl
theorem msk_bit (rows : List Nat) (bit : Nat) : ∀ k i, (msk rows bit k).testBit i = (decide (i < k) && (rows.getD i 0).testBit bit)
  | 0, i => by simp [msk]
  | k + 1, i => by
    rw [msk, Nat.testBit_or, msk_bit rows bit k i, bit_term]
    by_cases e : i = k
    · subst e; simp
    · by_cases h : i < k
      · simp [h, e, show i < k + 1 by omega]
      · simp [h, e, show ¬ i < k + 1 by omega]
theorem msk_lt (rows : List Nat) (bit k : Nat) : msk rows bit k < 2 ^ k := Nat.lt_pow_two_of_testBit _ fun j hj => by
  rw [msk_bit, decide_eq_false (by omega)]; rfl
theorem msk_asg (h : LP n ns kept P pats first) {j : Nat} (hj : j < pats.length) : pat pats j = asg n (msk P.rows j n) := by
  funext k
  by_cases hk : k ∈ insL n
  · obtain ⟨h1, h2⟩ := insL_mem.mp hk
    have e := h.M.rb (k - 1) (by rw [insL_len]; omega) j
    rw [insL_get (by omega), show k - 1 + 1 = k by omega, decide_eq_true hj, Bool.true_and] at e
    rw [asg, decide_eq_true ⟨h1, h2⟩, msk_bit, decide_eq_true (show k - 1 < n by omega), e]
    simp
  · rw [h.M.pz j k hk, asg, decide_eq_false (fun q => hk (insL_mem.mpr q))]; rfl
noncomputable def seenL (rows : List Nat) (n k : Nat) : List Nat := (List.range k).map fun j => msk rows j n
theorem seenL_succ (rows : List Nat) (n k : Nat) : seenL rows n (k + 1) = seenL rows n k ++ [msk rows k n] := by simp [seenL, List.range_succ]
theorem seenL_len (rows : List Nat) (n k : Nat) : (seenL rows n k).length = k := by simp [seenL]
theorem seenL_get {rows : List Nat} {n k j : Nat} (h : j < k) : (seenL rows n k).getD j 0 = msk rows j n := by simp [seenL, List.getD_eq_getElem?_getD, h]
theorem seen_new (h : LP n ns kept P pats first) {k : Nat} (hk : k < pats.length) (hf : first ≤ k) : msk P.rows k n ∉ seenL P.rows n k := by
  intro hm
  obtain ⟨j, hj, e⟩ := List.mem_map.mp hm
  have hj := List.mem_range.mp hj
  refine h.d k hf hk j hj ?_
  rw [msk_asg h hk, msk_asg h (by omega), e]
/-- a node's word as the law builds it -/
noncomputable def wrd (col : Nat) (seen : List Nat) : Nat → Nat
  | 0 => 0
  | b + 1 => wrd col seen b ||| ((col >>> (seen.getD b 0)) &&& 1) <<< b
theorem wrd_bit (col : Nat) (seen : List Nat) : ∀ k j, (wrd col seen k).testBit j = (decide (j < k) && col.testBit (seen.getD j 0))
  | 0, j => by simp [wrd]
  | k + 1, j => by
    rw [wrd, Nat.testBit_or, wrd_bit col seen k j, bit_term]
    by_cases e : j = k
    · subst e; simp
    · by_cases h : j < k
      · simp [h, e, show j < k + 1 by omega]
      · simp [h, e, show ¬ j < k + 1 by omega]
theorem wrd_val (h : LP n ns kept P pats first) (hI : LI n ns cols kept) {k : Nat} (hk : k < ns.length) : P.vals.getD k 0 = wrd (cols.getD k 0) (seenL P.rows n pats.length) pats.length := by
  refine Nat.eq_of_testBit_eq fun j => ?_
  rw [h.M.vb k hk, wrd_bit]
  by_cases hj : j < pats.length
  · rw [seenL_get hj, hI.cb k hk _ (msk_lt _ _ _), msk_asg h hj]
  · rw [decide_eq_false hj]; rfl
/-- the kept words part at the end -/
theorem kept_part (h : LP n ns kept P pats first) (hI : LI n ns cols kept) {a b : Nat} (ha : a ∈ kept) (hb : b ∈ kept) (hne : b ≠ a) (hn : n < a) : ¬ (P.vals.getD b 0 = P.vals.getD a 0 ∨ P.vals.getD b 0 = P.vals.getD a 0 ^^^ (1 <<< P.c - 1)) := by
  have hM := h.M
  have hal := hI.kl a ha
  have hbl := hI.kl b hb
  have hd := (dif_iff hM hal hbl).mpr (h.df a ha b hb hne.symm hn)
  have hc1 := hM.c1
  rintro (e | e)
  · exact hd (by rw [e])
  · refine hd ((nrm_eq (vals_lt hM hal) (vals_lt hM hbl)).mpr fun j hj => ?_)
    rw [e, Nat.testBit_xor, Nat.testBit_xor, two_pow_sub_bit, two_pow_sub_bit, decide_eq_true hj, decide_eq_true hc1]
    cases (P.vals.getD a 0).testBit j <;> cases (P.vals.getD a 0).testBit 0 <;> rfl
end
-- W20
@[reducible] noncomputable def LF (F0 : Fx) (g : Heap) (L : Addr) : Fx := F0.sub g L F0.A d_law_settled 499
section
variable {F0 : Fx} {g : Heap} {L : Addr} {D : Led}
theorem w_fin (ok : (LF F0 g L).Ok) (hlv : F0.lv < 20) {n first : Nat} {tn tq : Tok} {x cl el : Addr} {A : Ag} {S : Sg} {P : Sd} {pats : List Pat} {ns : List (Option (Nat × Nat))} {cols kept : List Nat} {oC oE : Obj} {u1 u2 u3 u5 u6 u10 u11 u12 u13 u14 u15 u16 u17 u18 u19 u20 u21 u22 u23 u24 : Option Value}
    (hn : n ≤ 3) (hI : LI n ns cols kept) (hP : LP n ns kept P pats first) (hS : S.Is F0.w P) (hnl : ns.length ≤ 20) (hkl : kept.length ≤ 20) (hx : (x, instObj 439 S.dx) ∈ D) (hd : (S.dx, S.dict F0.w A) ∈ D) (hr : (S.rl, S.oR) ∈ D) (hv : (S.vl, S.oV) ∈ D) (hc : (cl, oC) ∈ D) (he : (el, oE) ∈ D) (hC : IL oC cols) (hE : IL oE kept) :
    HT (LF F0 g L) [some (VN n tn), u1, u2, u3, some (.ref cl), u5, u6, some (.ref x), some (VN first tq), some (.ref el), u10, u11, u12, u13, u14, u15, u16, u17, u18, u19, u20, u21, u22, u23, u24] D (execs (d_law_settled.body.drop 12) (LF F0 g L).env) fun fl _ D' => fl = .ret (.bool true) ∧ Le D D' := by
  have hcb := hP.b
  have hcl := hP.M.c
  have hSc := hS.c
  have hrl := hP.M.rl
  rw [insL_len] at hrl
  have hvl := hP.M.vl
  have hlc := hI.lc
  show HT _ _ _ (execs (_ :: _) _) _
  refine execs_cons_ ?_
  repeat ktr_units
  rename_i sl hsl
  refine forR_ ok (n := S.c) (j := 20) rfl (by omega) (fun k vs' D' => ∃ u6 u20 u21 oS, vs' = [some (VN n tn), u1, u2, u3, some (.ref cl), u5, u6, some (.ref x), some (VN first tq), some (.ref el), u10, u11, u12, u13, u14, u15, u16, u17, u18, some (.ref sl), u20, u21, u22, u23, u24] ∧ D' = (sl, oS) :: D ∧ IL oS (seenL P.rows n k)) ?_ ?_ ?_
  · repeat ktr_units
    refine sg_get_count ok (by k_mem) (by k_mem) rfl ?_
    repeat ktr_units
    refine range1_ fun r t1 t2 hr => ?_
    exact ⟨_, _, _, _, _, rfl, rfl, u6, u20, u21, _, rfl, rfl, ⟨[], 0, rfl, .nil⟩⟩
  · rintro k t _ _ E hk ⟨u6, u20, u21, oS, rfl, rfl, hoS⟩
    show HT _ [_, _, _, _, _, _, _, _, _, _, _, _, _, _, _, _, _, _, _, _, _, _, _, _, _] ((_, _) :: (_ ++ _)) _ _
    refine execs_cons_ ?_
    repeat ktr_units
    refine forR_ ok (n := n) (j := 6) rfl (by omega) (fun i vs' D' => ∃ u6 tm, vs' = [some (VN n tn), u1, u2, u3, some (.ref cl), u5, u6, some (.ref x), some (VN first tq), some (.ref el), u10, u11, u12, u13, u14, u15, u16, u17, u18, some (.ref sl), some (VN k t), some (VN (msk P.rows k i) tm), u22, u23, u24] ∧ D' = (sl, oS) :: (D ++ E)) ?_ ?_ ?_
    · repeat ktr_units
      refine range1_ fun r t1 t2 hr => ?_
      exact ⟨_, _, _, _, _, rfl, rfl, u6, _, rfl, rfl⟩
    · rintro i ti _ _ E2 hi ⟨u6, tm, rfl, rfl⟩
      show HT _ [_, _, _, _, _, _, _, _, _, _, _, _, _, _, _, _, _, _, _, _, _, _, _, _, _] ((_, _) :: ((_ ++ _) ++ _)) _ _
      refine execs_cons_ ?_
      repeat ktr_units
      refine sg_get_rows ok (by k_mem) (by k_mem) rfl ?_
      repeat ktr_units
      refine tail_il (by k_mem) hS.R (getD_some (by omega)) (by omega) fun _ => ?_
      repeat ktr_units
      refine shlN_ (by omega) (by have := and1_le (P.rows.getD i 0 >>> k); omega) fun _ => ?_
      repeat ktr_units
      exact ⟨_, rfl, _, _, rfl, rfl⟩
    · rintro _ _ ⟨u6, tm, rfl, rfl⟩
      repeat ktr_units
      have app : ∀ (vs' : List (Option Value)) (hvs : vs' = [some (VN n tn), u1, u2, u3, some (.ref cl), u5, u6, some (.ref x), some (VN first tq), some (.ref el), u10, u11, u12, u13, u14, u15, u16, u17, u18, some (.ref sl), some (VN k t), some (VN (msk P.rows k n) tm), u22, u23, u24]) o', IL o' (seenL P.rows n k ++ [msk P.rows k n]) →
          Turn (fun vs' D' => ∃ u6 u20 u21 oS, vs' = [some (VN n tn), u1, u2, u3, some (.ref cl), u5, u6, some (.ref x), some (VN first tq), some (.ref el), u10, u11, u12, u13, u14, u15, u16, u17, u18, some (.ref sl), u20, u21, u22, u23, u24] ∧ D' = (sl, oS) :: D ∧ IL oS (seenL P.rows n (k + 1))) (fun f vs' D' => match f with | .next => HT (LF F0 g L) vs' D' (execs (d_law_settled.body.drop 14) (LF F0 g L).env) fun fl _ D' => fl = .ret (.bool true) ∧ Le D D' | f => f = .ret (.bool true) ∧ Le D D') E .next vs' ((sl, o') :: (D ++ E)) := fun vs' hvs o' ho' => ⟨(sl, o') :: D, rfl, u6, _, _, o', hvs, rfl, by rw [seenL_succ]; exact ho'⟩
      refine bite (fun e => ?_) fun e => ?_
      · have e := of_decide_eq_true e
        repeat ktr_units
        refine inIL_ (F := LF F0 g L) ok (by k_mem) hoS ?_
        repeat ktr_units
        refine bite (fun e2 => (seen_new hP (by omega) e (of_decide_eq_true e2)).elim) fun _ => ?_
        repeat ktr_units
        refine appendIL_m (by k_mem) hoS ?_
        repeat ktr_units
        refine append_il (by tb_start) hoS (by rw [seenL_len]; simp only [sizeLine]; omega) fun o' ho' => ?_
        refine ⟨by simp, ?_⟩
        repeat ktr_units
        exact app _ rfl o' ho'
      · repeat ktr_units
        refine appendIL_m (by k_mem) hoS ?_
        repeat ktr_units
        refine append_il (by tb_start) hoS (by rw [seenL_len]; simp only [sizeLine]; omega) fun o' ho' => ?_
        refine ⟨by simp, ?_⟩
        repeat ktr_units
        exact app _ rfl o' ho'
  · rintro _ _ ⟨u6, u20, u21, oS, rfl, rfl, hoS⟩
    rw [hSc] at hoS
    repeat ktr_units
    refine sg_get_count ok (by k_mem) (by k_mem) rfl ?_
    repeat ktr_units
    refine shlN_ (by omega) (by omega) fun _ => ?_
    repeat ktr_units
    refine subN_ (by rw [Nat.shiftLeft_eq]; have := Nat.two_pow_pos S.c; omega) fun tk => ?_
    repeat ktr_units
    refine forR_ ok (n := cols.length) (j := 10) rfl (by omega) (fun k vs' D' => ∃ u10 u20 u23, vs' = [some (VN n tn), u1, u2, u3, some (.ref cl), u5, u6, some (.ref x), some (VN first tq), some (.ref el), u10, u11, u12, u13, u14, u15, u16, u17, u18, some (.ref sl), u20, u21, some (VN (1 <<< S.c - 1) tk), u23, u24] ∧ D' = (sl, oS) :: D) ?_ ?_ ?_
    · repeat ktr_units
      refine len_il (by k_mem) hC (by omega) fun _ => ?_
      repeat ktr_units
      refine range1_ fun r t1 t2 hr => ?_
      exact ⟨_, _, _, _, _, rfl, rfl, u10, u20, u23, rfl, rfl⟩
    · rintro k t _ _ E hk ⟨u10, u20, u23, rfl, rfl⟩
      show HT _ [_, _, _, _, _, _, _, _, _, _, _, _, _, _, _, _, _, _, _, _, _, _, _, _, _] ((_, _) :: (_ ++ _)) _ _
      refine execs_cons_ ?_
      repeat ktr_units
      refine forR_ ok (n := S.c) (j := 20) rfl (by omega) (fun b vs' D' => ∃ u20 tw, vs' = [some (VN n tn), u1, u2, u3, some (.ref cl), u5, u6, some (.ref x), some (VN first tq), some (.ref el), some (VN k t), u11, u12, u13, u14, u15, u16, u17, u18, some (.ref sl), u20, u21, some (VN (1 <<< S.c - 1) tk), some (VN (wrd (cols.getD k 0) (seenL P.rows n P.c) b) tw), u24] ∧ D' = (sl, oS) :: (D ++ E)) ?_ ?_ ?_
      · repeat ktr_units
        refine sg_get_count ok (by k_mem) (by k_mem) rfl ?_
        repeat ktr_units
        refine range1_ fun r t1 t2 hr => ?_
        exact ⟨_, _, _, _, _, rfl, rfl, u20, _, rfl, rfl⟩
      · rintro b tb _ _ E2 hb ⟨u20, tw, rfl, rfl⟩
        show HT _ [_, _, _, _, _, _, _, _, _, _, _, _, _, _, _, _, _, _, _, _, _, _, _, _, _] ((_, _) :: ((_ ++ _) ++ _)) _ _
        refine execs_cons_ ?_
        repeat ktr_units
        refine tail_il (by k_mem) hC (getD_some (by omega)) (by omega) fun _ => ?_
        repeat ktr_units
        refine tail_il (by k_mem) hoS (getD_some (by rw [seenL_len]; omega)) (by omega) fun _ => ?_
        repeat ktr_units
        refine shlN_ (by omega) (by have := and1_le (cols.getD k 0 >>> (seenL P.rows n P.c).getD b 0); omega) fun _ => ?_
        repeat ktr_units
        exact ⟨_, rfl, _, _, rfl, rfl⟩
      · rintro _ _ ⟨u20, tw, rfl, rfl⟩
        repeat ktr_units
        refine sg_get_values ok (by k_mem) (by k_mem) rfl ?_
        repeat ktr_units
        refine tail_il (by k_mem) hS.V (getD_some (by omega)) (by omega) fun _ => ?_
        repeat ktr_units
        have ew := wrd_val hP hI (show k < ns.length by omega)
        rw [← hcl, ← hSc] at ew
        rw [hSc] at ew
        refine bite (fun e => ?_) fun _ => ?_
        · rw [hSc, ← ew] at e
          simp at e
        · repeat ktr_units
          exact ⟨_, rfl, _, _, _, rfl, rfl⟩
    · rintro _ _ ⟨u10, u20, u23, rfl, rfl⟩
      repeat ktr_units
      refine forE_ ok (j := 10) rfl (sliceFrom_ ?_)
      repeat ktr_units
      refine ⟨el, oE, kept, n + 1, _, rfl, rfl, by k_mem, hE, by omega, fun a oa hoa => ⟨a, oa, kept.drop (n + 1), fun i vs' D' => ∃ u10 u24, vs' = [some (VN n tn), u1, u2, u3, some (.ref cl), u5, u6, some (.ref x), some (VN first tq), some (.ref el), u10, u11, u12, u13, u14, u15, u16, u17, u18, some (.ref sl), u20, u21, some (VN (1 <<< S.c - 1) tk), u23, u24] ∧ D' = (a, oa) :: (sl, oS) :: D, rfl, hoa, ⟨_, _, rfl, rfl⟩, ?_, ?_, ?_⟩⟩
      · rintro i _ _ ⟨u10, u24, rfl, rfl⟩
        exact .head _
      · rintro i na ta _ _ E hna ⟨u10, u24, rfl, rfl⟩
        have hnk : na ∈ kept ∧ n < na := by
          obtain ⟨K2, e, h2⟩ := hI.ks
          have hm : na ∈ kept.drop (n + 1) := List.mem_of_getElem? hna
          rw [e, List.drop_left' (by simp)] at hm
          exact ⟨by rw [e]; exact List.mem_append.mpr (.inr hm), h2 na hm⟩
        have hnl' := hI.kl na hnk.1
        show HT _ [_, _, _, _, _, _, _, _, _, _, _, _, _, _, _, _, _, _, _, _, _, _, _, _, _] ((_, _) :: (_, _) :: (_ ++ _)) _ _
        refine execs_cons_ ?_
        repeat ktr_units
        refine forIL_ ok (l := el) (o := oE) (ws := kept) (j := 24) rfl hE (fun i vs' D' => ∃ u24, vs' = [some (VN n tn), u1, u2, u3, some (.ref cl), u5, u6, some (.ref x), some (VN first tq), some (.ref el), some (VN na ta), u11, u12, u13, u14, u15, u16, u17, u18, some (.ref sl), u20, u21, some (VN (1 <<< S.c - 1) tk), u23, u24] ∧ D' = (a, oa) :: (sl, oS) :: (D ++ E)) ?_ ?_ ?_ ?_
        · repeat ktr_units
          exact ⟨rfl, _, rfl, rfl⟩
        · rintro i _ _ ⟨u24, rfl, rfl⟩
          k_mem
        · rintro i no to _ _ E2 hno ⟨u24, rfl, rfl⟩
          have hok : no ∈ kept := List.mem_of_getElem? hno
          have hol' := hI.kl no hok
          show HT _ [_, _, _, _, _, _, _, _, _, _, _, _, _, _, _, _, _, _, _, _, _, _, _, _, _] ((_, _) :: (_, _) :: ((_ ++ _) ++ _)) _ _
          refine execs_cons_ ?_
          repeat ktr_units
          refine bite (fun e => ?_) fun _ => ?_
          · have e : no ≠ na := by simpa using e
            repeat ktr_units
            refine sg_get_values ok (by k_mem) (by k_mem) rfl ?_
            repeat ktr_units
            refine tail_il (by k_mem) hS.V (getD_some (by omega)) (by omega) fun _ => ?_
            repeat ktr_units
            refine sg_get_values ok (by k_mem) (by k_mem) rfl ?_
            repeat ktr_units
            refine tail_il (by k_mem) hS.V (getD_some (by omega)) (by omega) fun _ => ?_
            repeat ktr_units
            refine sg_get_values ok (by k_mem) (by k_mem) rfl ?_
            repeat ktr_units
            refine tail_il (by k_mem) hS.V (getD_some (by omega)) (by omega) fun _ => ?_
            repeat ktr_units
            refine inTup_ (F := LF F0 g L) ok (.head _) ?_
            repeat ktr_units
            refine bite (fun e2 => ?_) fun _ => ?_
            · refine (kept_part hP hI hnk.1 hok e hnk.2 ?_).elim
              rw [← hSc]
              simpa using e2
            · refine HT.le ?_ (Le.skip (Le.refl _))
              repeat ktr_units
              exact ⟨_, rfl, _, rfl, rfl⟩
          · repeat ktr_units
            exact ⟨_, rfl, _, rfl, rfl⟩
        · rintro _ _ ⟨u24, rfl, rfl⟩
          repeat ktr_units
          exact ⟨_, rfl, _, _, rfl, rfl⟩
      · rintro _ _ ⟨u10, u24, rfl, rfl⟩
        repeat ktr_units
        refine And_ ?_
        repeat ktr_units
        refine sg_get_values ok (by k_mem) (by k_mem) rfl ?_
        repeat ktr_units
        refine len_il (by k_mem) hS.V (by omega) fun _ => ?_
        repeat ktr_units
        refine len_il (by k_mem) hC (by omega) fun _ => ?_
        repeat ktr_units
        refine bite (fun _ => ?_) fun e => by simp at e; omega
        refine And1_ ?_
        repeat ktr_units
        refine sg_get_rows ok (by k_mem) (by k_mem) rfl ?_
        repeat ktr_units
        refine len_il (by k_mem) hS.R (by omega) fun _ => ?_
        repeat ktr_units
        refine ⟨?_, Le.skip (Le.skip (Le.refl _))⟩
        rw [decide_eq_true hrl]
end
-- W21
structure LS (w : World) (n first : Nat) (td : Addr) (A : Ag) (S : Sg) (oN oD oC oE oP oT : Obj) (R : Led) (i : Nat) (ns : List (Option (Nat × Nat))) (cols kept : List Nat) (P : Sd) (pats : List Pat) : Prop where
  li : LI n ns cols kept
  lp : LP n ns kept P pats first
  ag : AgOk A R ns (insL n)
  vt : A.vt = .ref td
  sg : S.Is w P
  nm : ∃ kn kd ms, DI w oN kn ∧ MD kn ms ∧ DI w oD kd ∧ MD kd ms ∧ ms.length ≤ i ∧ (∀ p ∈ ms, p.1 < ns.length) ∧ (ms.map (·.1)).Nodup
  co : IL oC cols
  ex : IL oE kept
  pr : NL R oP ns
  tb : ∃ nt, TO w R oT nt ∧ nt ≤ i
  nl : ns.length ≤ n + 1 + i
  nn : n < ns.length
  kl : kept.length ≤ n + 1 + i
@[reducible] noncomputable def LLd (w : World) (A : Ag) (x : Addr) (S : Sg) (nd du cl el pr td : Addr) (oN oD oC oE oP oT : Obj) (R : Led) : Led :=
  S.led w A x ((nd, oN) :: (du, oD) :: (cl, oC) :: (el, oE) :: (pr, oP) :: (td, oT) :: R)
noncomputable def forB : Stmt → List Stmt
  | .For _ _ b _ _ => b
  | _ => []
noncomputable def ifB : Stmt → List Stmt
  | .If _ b _ _ => b
  | _ => []
noncomputable def tbody : List Stmt := forB (((bod (stAt 39))[11]?).getD (.Pass ⟨0, 0, 0, 0⟩))
noncomputable def gbody : List Stmt := ifB ((tbody[4]?).getD (.Pass ⟨0, 0, 0, 0⟩))
section
variable {w : World} {A : Ag} {x nd du cl el pr td : Addr} {S : Sg} {oN oD oC oE oP oT : Obj} {R : Led}
theorem z_nd : Zip nd oN (LLd w A x S nd du cl el pr td oN oD oC oE oP oT R) (fun o => LLd w A x S nd du cl el pr td o oD oC oE oP oT R) := .tail (.tail (.tail (.tail (.tail (.tail (.tail (.tail (.tail (.tail (Zip.skip .head _))))))))))
theorem z_du : Zip du oD (LLd w A x S nd du cl el pr td oN oD oC oE oP oT R) (fun o => LLd w A x S nd du cl el pr td oN o oC oE oP oT R) := .tail (.tail (.tail (.tail (.tail (.tail (.tail (.tail (.tail (.tail (Zip.skip (.tail .head) _))))))))))
theorem z_cl : Zip cl oC (LLd w A x S nd du cl el pr td oN oD oC oE oP oT R) (fun o => LLd w A x S nd du cl el pr td oN oD o oE oP oT R) := .tail (.tail (.tail (.tail (.tail (.tail (.tail (.tail (.tail (.tail (Zip.skip (.tail (.tail .head)) _))))))))))
theorem z_el : Zip el oE (LLd w A x S nd du cl el pr td oN oD oC oE oP oT R) (fun o => LLd w A x S nd du cl el pr td oN oD oC o oP oT R) := .tail (.tail (.tail (.tail (.tail (.tail (.tail (.tail (.tail (.tail (Zip.skip (.tail (.tail (.tail .head))) _))))))))))
theorem z_pr : Zip pr oP (LLd w A x S nd du cl el pr td oN oD oC oE oP oT R) (fun o => LLd w A x S nd du cl el pr td oN oD oC oE o oT R) := .tail (.tail (.tail (.tail (.tail (.tail (.tail (.tail (.tail (.tail (Zip.skip (.tail (.tail (.tail (.tail .head)))) _))))))))))
theorem LLd_move {p : Addr × Obj} : Le (LLd w A x S nd du cl el pr td oN oD oC oE oP oT (p :: R)) (p :: LLd w A x S nd du cl el pr td oN oD oC oE oP oT R) := Le.of_perm (by
  have := List.perm_middle (a := p) (l₁ := LLd w A x S nd du cl el pr td oN oD oC oE oP oT []) (l₂ := R)
  simp only [LLd, Sg.led, List.cons_append, List.append_assoc, List.nil_append] at this ⊢
  exact this)
end
section
variable {F0 : Fx} {g : Heap} {L : Addr} {D R RL : Led} {QF : Flow → List (Option Value) → Led → Prop}
variable {n first i : Nat} {tn tf tq : Tok} {x nd du cl el pr td : Addr} {A : Ag} {S : Sg} {oN oD oC oE oP oT : Obj} {P : Sd} {pats : List Pat} {ns : List (Option (Nat × Nat))} {cols kept : List Nat} {u1 u2 u6 u10 u14 u15 u16 u17 u18 u19 u20 u21 u22 u23 u24 : Option Value}
theorem w_chk (ok : (LF F0 g L).Ok) (hL : LS F0.w n first td A S oN oD oC oE oP oT R i ns cols kept P pats) (hR : ∀ p ∈ R, p ∈ RL)
    (h : QF .next [some (VN n tn), u1, u2, some (.ref A.g), some (.ref cl), some (VN (fu n) tf), u6, some (.ref x), some (VN first tq), some (.ref el), u10, some (.ref nd), some (.ref du), some (.ref pr), u14, u15, u16, u17, u18, u19, u20, u21, u22, u23, u24] (LLd F0.w A x S nd du cl el pr td oN oD oC oE oP oT RL)) :
    HT (LF F0 g L) [some (VN n tn), u1, u2, some (.ref A.g), some (.ref cl), some (VN (fu n) tf), u6, some (.ref x), some (VN first tq), some (.ref el), u10, some (.ref nd), some (.ref du), some (.ref pr), u14, u15, u16, u17, u18, u19, u20, u21, u22, u23, u24] (LLd F0.w A x S nd du cl el pr td oN oD oC oE oP oT RL) (execs (tbody.drop 5) (LF F0 g L).env) QF := by
  obtain ⟨kn, kd, ms, hkn, hmn, hkd, hmd, hml, hms, hnd⟩ := hL.nm
  show HT _ _ ((_, _) :: _) (execs (_ :: _) _) _
  refine execs_cons_ ?_
  repeat ktr_units
  refine neMD_ (F := LF F0 g L) ok (by k_mem) (by k_mem) hkn hkd hmn hmd hnd ?_
  repeat ktr_units
  refine sg_get_kept ok (by k_mem) (by k_mem) rfl ?_
  repeat ktr_units
  refine neIL_ (F := LF F0 g L) ok (by k_mem) (by k_mem) (hL.lp.K ▸ hL.sg.K) hL.ex ?_
  repeat ktr_units
  refine ag_get_nodes ok (by k_mem) (by k_mem) rfl ?_
  repeat ktr_units
  refine neNL_ (F := LF F0 g L) ok (by k_mem) (by k_mem) hL.ag.N hL.pr (fun p hp => by have := hR p hp; k_mem) (fun p hp => by have := hR p hp; k_mem) ?_
  repeat ktr_units
  try exact h
theorem w_lcl {F : Fx} {vs : List (Option Value)} (ok : F.Ok) {nm : Str} {p1 p2 p3 p4 p5 p6 p7 p8 p9 p10 p11 p12 p13 p14} {k1 k2 k3 k4} {l : Nat} {tl : Tok} (h1 : At F.xs vs (Str.ofString "columns") (.ref cl)) (h2 : At F.xs vs nm (VN l tl)) (h3 : At F.xs vs (Str.ofString "full") (VN (fu n) tf)) (hc : (cl, oC) ∈ D) (hC : IL oC cols) (hl : l >>> 1 < cols.length) (hz : cols.length < 1000) (hd : (nm == ("__debug__" : Str)) = false) :
    HT F vs D (eval (.BinOp (.Subscript (.Name (Str.ofString "columns") p1) (.BinOp (.Name nm p2) .RShift (.Constant (.int 1) k1 p3) p4) p5) .BitXor (.IfExp (.Compare (.BinOp (.Name nm p6) .BitAnd (.Constant (.int 1) k2 p7) p8) [.Eq] [.Constant (.int 1) k3 p9] p10) (.Name (Str.ofString "full") p11) (.Constant (.int 0) k4 p12) p13) p14) F.env)
      fun v vs' D' => ∃ t, v = VN (lcl cols n l) t ∧ vs' = vs ∧ D' = D := by
  refine BinOp_' (Sub_ (local_ ok h1 (BinOp_' (local_ ok h2 (IntL_ fun _ => shrN_ fun _ => ?_) hd))))
  refine tail_il hc hC (getD_some hl) (by omega) fun _ => IfExp_' (isCompare_ (BinOp_' (local_ ok h2 (IntL_ fun _ => andN_ fun _ => IntL_ fun _ => eqN_ (truthy_bool_ ?_)) hd)))
  refine bite (fun e => ?_) fun e => ?_
  · have e := of_decide_eq_true e
    exact local_ ok h3 (xorN_ fun _ => ⟨_, by rw [lcl, if_pos e], rfl, rfl⟩)
  · have e := of_decide_eq_false e
    exact IntL_ fun _ => xorN_ fun _ => ⟨_, by rw [lcl, if_neg e], rfl, rfl⟩
theorem w_grow (ok : (LF F0 g L).Ok) (hlv : F0.lv < 20) (hn : n ≤ 3) (hi : i ≤ 8) {one two : Nat} {t1 t2 tb : Tok} {A1 : Ag} {oT1 : Obj} {R1 : Led} (hL : LS F0.w n first td A S oN oD oC oE oP oT R i ns cols kept P pats) (hR : ∀ p ∈ R, p ∈ R1) (hRL : ∀ p ∈ R1, p ∈ RL) (hg : A1.g = A.g) (hvt : A1.vt = .ref td)
    (h1 : one >>> 1 < ns.length) (h2 : two >>> 1 < ns.length) (h3 : 2 ≤ min one two) (hA : AgOk A1 R1 (ns ++ [some (prOf one two)]) (insL n)) (hT : ∃ nt, TO F0.w R1 oT1 nt ∧ nt ≤ i + 1)
    (h : ∀ (S' : Sg) oN' oD' oC' oE' oP' E ns' cols' kept' P' pats' u10 u17 u18, LS F0.w n first td A1 S' oN' oD' oC' oE' oP' oT1 (E ++ R1) (i + 1) ns' cols' kept' P' pats' →
      QF .next [some (VN n tn), u1, u2, some (.ref A.g), some (.ref cl), some (VN (fu n) tf), u6, some (.ref x), some (VN first tq), some (.ref el), u10, some (.ref nd), some (.ref du), some (.ref pr), some (VN one t1), some (VN two t2), some (VN ns.length tb), u17, u18, u19, u20, u21, u22, u23, u24] (LLd F0.w A1 x S' nd du cl el pr td oN' oD' oC' oE' oP' oT1 (E ++ RL))) :
    HT (LF F0 g L) [some (VN n tn), u1, u2, some (.ref A.g), some (.ref cl), some (VN (fu n) tf), u6, some (.ref x), some (VN first tq), some (.ref el), u10, some (.ref nd), some (.ref du), some (.ref pr), some (VN one t1), some (VN two t2), some (VN ns.length tb), u17, u18, u19, u20, u21, u22, u23, u24] (LLd F0.w A1 x S nd du cl el pr td oN oD oC oE oP oT1 RL) (execs gbody (LF F0 g L).env) QF := by
  obtain ⟨kn, kd, ms, hkn, hmn, hkd, hmd, hml, hms, hnd⟩ := hL.nm
  have hlc := hL.li.lc
  have hnl := hL.nl
  have hnn := hL.nn
  have hkl := hL.kl
  show HT _ _ ((_, _) :: _) (execs (_ :: _) _) _
  refine execs_cons_ ?_
  refine AssignN_ (HT.mono (w_lcl (F := LF F0 g L) ok (cols := cols) (n := n) (by ktr_rel) (by ktr_rel) (by ktr_rel) (by k_mem) hL.co (by omega) (by omega) (by decide)) ?_)
  rintro _ _ _ ⟨tc1, rfl, rfl, rfl⟩
  refine store_ ok (by tb_rel) ?_
  refine execs_cons_ ?_
  refine AugN_ (load_ ok (by ktr_rel) (HT.mono (w_lcl (F := LF F0 g L) ok (cols := cols) (n := n) (by ktr_rel) (by ktr_rel) (by ktr_rel) (by k_mem) hL.co (by omega) (by omega) (by decide)) ?_))
  rintro _ _ _ ⟨tc2, rfl, rfl, rfl⟩
  refine iandN_ fun tc => ?_
  refine store_ ok (by tb_rel) ?_
  refine execs_cons_ ?_
  repeat ktr_units
  refine appendIL_m (by k_mem) hL.co ?_
  repeat ktr_units
  refine append_il (n := ncl cols n one two) z_cl hL.co (by simp only [sizeLine]; omega) fun oC' hC' => ?_
  refine ⟨by simp, ?_⟩
  refine execs_cons_ ?_
  repeat ktr_units
  refine appendNL_m (by k_mem) hL.pr ?_
  repeat ktr_units
  refine min2_ ok fun tm1 => ?_
  repeat ktr_units
  refine max2_ ok fun tm2 => ?_
  repeat ktr_units
  rename_i bt hbt
  refine append_nl (p := some (prOf one two)) (.tail z_pr) (hL.pr.mono (R' := (bt, tupOf [VN (min one two) tm1, VN (max one two) tm2]) :: R1) fun p hp => .tail _ (hR p hp)) ⟨bt, tm1, tm2, rfl, .head _⟩ (by simp only [sizeLine]; omega) fun oP' hP' => ?_
  refine ⟨by simp, ?_⟩
  refine HT.le (D' := LLd F0.w A1 x S nd du cl el pr td oN oD oC' oE oP' oT1 ((bt, tupOf [VN (min one two) tm1, VN (max one two) tm2]) :: RL)) ?_ LLd_move
  refine execs_cons_ ?_
  repeat ktr_units
  refine Unary_ ?_
  repeat ktr_units
  refine negN_ fun tm => ?_
  refine store_ ok (by tb_rel) ?_
  refine execs_cons_ ?_
  have hg' := hg
  refine forIL_ ok (l := el) (o := oE) (ws := kept) (j := 10) rfl hL.ex (fun k vs' D' => ∃ u10 tm, vs' = [some (VN n tn), u1, u2, some (.ref A.g), some (.ref cl), some (VN (fu n) tf), u6, some (.ref x), some (VN first tq), some (.ref el), u10, some (.ref nd), some (.ref du), some (.ref pr), some (VN one t1), some (VN two t2), some (VN ns.length tb), some (VN (ncl cols n one two) tc), some (.int (mtch (cols ++ [ncl cols n one two]) n (ncl cols n one two) (kept.take k)) tm), u19, u20, u21, u22, u23, u24] ∧ D' = LLd F0.w A1 x S nd du cl el pr td oN oD oC' oE oP' oT1 ((bt, tupOf [VN (min one two) tm1, VN (max one two) tm2]) :: RL)) ?_ ?_ ?_ ?_
  · repeat ktr_units
    exact ⟨rfl, _, _, rfl, rfl⟩
  · rintro k _ _ ⟨u10, tm, rfl, rfl⟩
    k_mem
  · rintro k na ta _ _ E hna ⟨u10, tm, rfl, rfl⟩
    have hnk := hL.li.kl na (List.mem_of_getElem? hna)
    have hm : mtch (cols ++ [ncl cols n one two]) n (ncl cols n one two) (kept.take (k + 1)) = mstep (cols ++ [ncl cols n one two]) n (ncl cols n one two) (mtch (cols ++ [ncl cols n one two]) n (ncl cols n one two) (kept.take k)) na := by
      rw [List.take_add_one, hna, mtch, mtch, List.foldl_append]; rfl
    have hget : (cols ++ [ncl cols n one two])[na]? = some ((cols ++ [ncl cols n one two]).getD na 0) := getD_some (by simp; omega)
    show HT _ [_, _, _, _, _, _, _, _, _, _, _, _, _, _, _, _, _, _, _, _, _, _, _, _, _] ((_, _) :: ((_, _) :: (_, _) :: (_, _) :: (_, _) :: (_, _) :: (_, _) :: (_, _) :: (_, _) :: (_, _) :: (_ ++ _)) ++ _) _ _
    refine execs_cons_ ?_
    repeat ktr_units
    refine tail_il (by k_mem) hC' hget (by omega) fun _ => ?_
    repeat ktr_units
    refine bite (fun e => ?_) fun e => ?_
    · have e := of_decide_eq_true e
      repeat ktr_units
      refine mulN_ (a := 2) (IntMulOk.of_left (by decide)) fun tz => ?_
      repeat ktr_units
      exact ⟨_, rfl, _, tz, by rw [hm, mstep, if_pos e], rfl⟩
    · have e := of_decide_eq_false e
      repeat ktr_units
      refine tail_il (by k_mem) hC' hget (by omega) fun _ => ?_
      repeat ktr_units
      refine bite (fun e2 => ?_) fun e2 => ?_
      · have e2 := of_decide_eq_true e2
        repeat ktr_units
        refine mulN_ (a := 2) (IntMulOk.of_left (by decide)) fun _ => ?_
        repeat ktr_units
        rename_i tz
        exact ⟨_, rfl, _, tz, by rw [hm, mstep, if_neg e, if_pos e2], rfl⟩
      · have e2 := of_decide_eq_false e2
        repeat ktr_units
        exact ⟨_, rfl, _, tm, by rw [hm, mstep, if_neg e, if_neg e2], rfl⟩
  · rintro _ _ ⟨u10, tm, rfl, rfl⟩
    rw [List.take_length]
    repeat ktr_units
    have hLI := hL.li.step (one := one) (two := two) h1 h2 h3 (by omega)
    have hK := hL.lp.K
    have hkll := hL.li.kl
    have hgl : P.gs.length ≤ 100 := by rw [hL.lp.M.gs]; exact Nat.le_trans (clsw_len _ _ _) (by rw [hK]; omega)
    have hknl : kn.length ≤ 100 := by rw [hmn.len]; omega
    have hnew : ns.length ∉ ms.map (·.1) := fun hm => by
      obtain ⟨q, hq, e⟩ := List.mem_map.mp hm
      have := hms q hq
      have e : q.1 = ns.length := e
      omega
    have hTR : ∃ nt, TO F0.w ([(bt, tupOf [VN (min one two) tm1, VN (max one two) tm2])] ++ R1) oT1 nt ∧ nt ≤ i + 1 := let ⟨nt, a, b⟩ := hT; ⟨nt, a.mono fun p hp => .tail _ hp, b⟩
    have hAR : AgOk A1 ([(bt, tupOf [VN (min one two) tm1, VN (max one two) tm2])] ++ R1) (ns ++ [some (prOf one two)]) (insL n) := hA.mono fun p hp => .tail _ hp
    refine ltI_ (b := 0) ?_
    repeat ktr_units
    refine bite (fun em => ?_) fun em => ?_
    · have em := of_decide_eq_true em
      repeat ktr_units
      refine appendIL_m (by k_mem) hL.ex ?_
      repeat ktr_units
      refine append_il z_el hL.ex (by simp only [sizeLine]; omega) fun oE' hE' => ?_
      refine ⟨by simp, ?_⟩
      repeat ktr_units
      refine w_settle_node (F := LF F0 g L) (A := A1) (R := (du, oD) :: (cl, oC') :: (el, oE') :: (pr, oP') :: (td, oT1) :: (bt, tupOf [VN (min one two) tm1, VN (max one two) tm2]) :: RL) (old := ns) (l := min one two) (r := max one two) (inputs := insL n) (first := first) (pats := pats) (P := P) (cf := 100) (t1 := tb) ok (by show F0.lv + 1 < 30; omega)
        (hA.mono fun p hp => by have := hRL p hp; k_mem) hLI.G hLI.I hL.sg hL.lp.M hL.lp.d hL.lp.b (by rw [hK]; exact hkll) (by omega) hkn hknl (by rw [hK]; omega) hgl (fun S' P' pats' other sgn mo' t hS' hM' hok hsg heq hmo' => ?_) fun S' P' pats' hS' hM' hne => ?_
      · rw [hK] at hok
        have := match_hit hL.li h1 h2 hLI hok hsg heq
        omega
      · rw [hK] at hS' hM' hne
        refine ⟨by simp, ?_⟩
        refine execs_nil_ ?_
        refine h S' oN oD oC' oE' oP' [(bt, tupOf [VN (min one two) tm1, VN (max one two) tm2])] (ns ++ [some (prOf one two)]) _ (kept ++ [ns.length]) _ pats' _ _ _ ⟨hL.li.miss hLI (match_miss hLI hlc hkll hM'.M hne) hnn, hL.lp.miss hkll hLI.G.wf hM' hne, hAR, hvt, hS', ⟨kn, kd, ms, hkn, hmn, hkd, hmd, by omega, fun p hp => ?_, hnd⟩, hC', hE', hP', hTR, ?_, ?_, ?_⟩
        · have := hms p hp; simp; omega
        · simp; omega
        · simp; omega
        · simp; omega
    · have em := of_decide_eq_false em
      repeat ktr_units
      refine setItem_dz (F := LF F0 g L) ok z_du hkd (by rw [hmd.len]; simp only [sizeLine]; omega) fun oD' hD' => ?_
      repeat ktr_units
      refine w_settle_node (F := LF F0 g L) (A := A1) (R := (du, oD') :: (cl, oC') :: (el, oE) :: (pr, oP') :: (td, oT1) :: (bt, tupOf [VN (min one two) tm1, VN (max one two) tm2]) :: RL) (old := ns) (l := min one two) (r := max one two) (inputs := insL n) (first := first) (pats := pats) (P := P) (cf := 100) (t1 := tb) ok (by show F0.lv + 1 < 30; omega)
        (hA.mono fun p hp => by have := hRL p hp; k_mem) hLI.G hLI.I hL.sg hL.lp.M hL.lp.d hL.lp.b (by rw [hK]; exact hkll) (by omega) hkn hknl (by rw [hK]; omega) hgl (fun S' P' pats' other sgn mo' t hS' hM' hok hsg heq hmo' => ?_) fun S' P' pats' hS' hM' hne => ?_
      · rw [hK] at hok hM'
        have hmt := match_hit hL.li h1 h2 hLI hok hsg heq
        rw [hmt] at hD'
        refine ⟨by simp, ?_⟩
        refine execs_nil_ ?_
        refine h S' mo' oD' oC' oE oP' [(bt, tupOf [VN (min one two) tm1, VN (max one two) tm2])] (ns ++ [some (prOf one two)]) _ kept P' pats' _ _ _ ⟨hLI, hL.lp.hit hkll hLI.G.wf hM', hAR, hvt, hS', ⟨_, _, ms ++ [(ns.length, 2 * other + sgn)], hmo', hmn.stored hnew, hD', hmd.stored hnew, by simp; omega, fun p hp => ?_, ?_⟩, hC', hL.ex, hP', hTR, ?_, ?_, ?_⟩
        · rcases List.mem_append.mp hp with hp | hp
          · have := hms p hp; simp; omega
          · rw [List.mem_singleton.mp hp]; simp
        · rw [List.map_append]
          refine List.nodup_append.mpr ⟨hnd, by simp, fun a ha b hb => ?_⟩
          rw [List.mem_singleton.mp hb]
          intro e
          have e : a = ns.length := e
          rw [e] at ha
          exact hnew ha
        · simp; omega
        · simp; omega
        · omega
      · rw [hK] at hne
        have := mtch_none (match_miss hLI hlc hkll hM'.M hne)
        omega
end
-- W22
section
variable {w : World} {A : Ag} {x nd du cl el pr td : Addr} {S : Sg} {oN oD oC oE oP oT : Obj} {R RL E : Led}
theorem LLd_app : LLd w A x S nd du cl el pr td oN oD oC oE oP oT R ++ E = LLd w A x S nd du cl el pr td oN oD oC oE oP oT (R ++ E) := by simp [LLd, Sg.led]
@[reducible] noncomputable def LLr (w : World) (A : Ag) (x : Addr) (S : Sg) (nd du cl el pr : Addr) (oN oD oC oE oP : Obj) (R : Led) : Led :=
  (x, instObj 439 S.dx) :: (S.dx, S.dict w A) :: (S.rl, S.oR) :: (S.kl, S.oK) :: (S.vl, S.oV) :: (S.cl, S.oC) :: (S.C ++ ((nd, oN) :: (du, oD) :: (cl, oC) :: (el, oE) :: (pr, oP) :: R))
theorem LLd_out : Le (A.led w td oT (LLr w A x S nd du cl el pr oN oD oC oE oP RL)) (LLd w A x S nd du cl el pr td oN oD oC oE oP oT RL) :=
  Le.pick (.tail (.tail .head)) (Le.pick (.tail (.tail .head)) (Le.pick (.tail (.tail .head)) (Le.pick (.tail (.tail .head)) (Le.pick (.tail (.tail (.tail (.tail (.tail (.tail (.app (.tail (.tail (.tail (.tail (.tail .head)))))))))))) (Le.refl _)))))
theorem mid_le {C M E RL : Led} {p : Addr × Obj} : Le (C ++ (M ++ p :: (E ++ RL))) (p :: (E ++ (C ++ (M ++ RL)))) := by
  have h1 : Le (C ++ (M ++ p :: (E ++ RL))) (p :: (C ++ (M ++ (E ++ RL)))) := Le.of_perm (by
    have := List.perm_middle (a := p) (l₁ := C ++ M) (l₂ := E ++ RL)
    simpa using this)
  have h2 : Le (C ++ (M ++ (E ++ RL))) (E ++ (C ++ (M ++ RL))) := by
    have := Le.mids (C := C ++ M) (E := E) (R := RL)
    simpa using this
  exact h1.trans (Le.cons h2)
theorem LLd_in {oT1 : Obj} {A1 : Ag} (hg : A1.g = A.g) : Le (LLd w A1 x S nd du cl el pr td oN oD oC oE oP oT1 (E ++ RL)) (A1.led w td oT1 (E ++ LLr w A x S nd du cl el pr oN oD oC oE oP RL)) := by
  have e : S.dict w A1 = S.dict w A := by unfold Sg.dict; rw [hg]
  rw [LLd, Sg.led, e]
  exact Le.pick (.tail (.tail (.tail (.tail (.tail (.app .head)))))) (Le.pick (.tail (.tail (.tail (.tail (.tail (.app .head)))))) (Le.pick .head (Le.pick .head (Le.pick .head (Le.pick .head (Le.pick (.tail (.app .head)) (Le.pick (.tail (.app .head)) (Le.pick (.tail (.app .head)) (Le.pick (.tail (.app .head)) (mid_le (M := [(nd, oN), (du, oD), (cl, oC), (el, oE), (pr, oP)])))))))))))
end
theorem LS.up {w n first td A S oN oD oC oE oP oT R i ns cols kept P pats} (h : LS w n first td A S oN oD oC oE oP oT R i ns cols kept P pats) : LS w n first td A S oN oD oC oE oP oT R (i + 1) ns cols kept P pats := by
  obtain ⟨h1, h2, h3, h4, h5, ⟨kn, kd, ms, a, b, c, d, e, f, g⟩, h7, h8, h9, ⟨nt, h10, h11⟩, h12, h13, h14⟩ := h
  exact ⟨h1, h2, h3, h4, h5, ⟨kn, kd, ms, a, b, c, d, by omega, f, g⟩, h7, h8, h9, ⟨nt, h10, by omega⟩, by omega, h13, by omega⟩
section
variable {F0 : Fx} {g : Heap} {L : Addr} {D R RL : Led} {QF : Flow → List (Option Value) → Led → Prop}
variable {n first i : Nat} {tn tf tq : Tok} {x nd du cl el pr td : Addr} {A : Ag} {S : Sg} {oN oD oC oE oP oT : Obj} {P : Sd} {pats : List Pat} {ns : List (Option (Nat × Nat))} {cols kept : List Nat} {u1 u2 u6 u10 u16 u17 u18 u19 u20 u21 u22 u23 u24 : Option Value}
theorem w_turn (ok : (LF F0 g L).Ok) (hlv : F0.lv < 20) (hn : n ≤ 3) (hi : i ≤ 8) {one0 two0 : Nat} {t1 t2 : Tok} (hL : LS F0.w n first td A S oN oD oC oE oP oT R i ns cols kept P pats) (hR : ∀ p ∈ R, p ∈ RL)
    (h : ∀ (A' : Ag) (S' : Sg) oN' oD' oC' oE' oP' oT' E ns' cols' kept' P' pats' u10 u14 u15 u16 u17 u18, LS F0.w n first td A' S' oN' oD' oC' oE' oP' oT' (E ++ R) (i + 1) ns' cols' kept' P' pats' → A'.g = A.g →
      QF .next [some (VN n tn), u1, u2, some (.ref A.g), some (.ref cl), some (VN (fu n) tf), u6, some (.ref x), some (VN first tq), some (.ref el), u10, some (.ref nd), some (.ref du), some (.ref pr), u14, u15, u16, u17, u18, u19, u20, u21, u22, u23, u24] (LLd F0.w A' x S' nd du cl el pr td oN' oD' oC' oE' oP' oT' (E ++ RL))) :
    HT (LF F0 g L) [some (VN n tn), u1, u2, some (.ref A.g), some (.ref cl), some (VN (fu n) tf), u6, some (.ref x), some (VN first tq), some (.ref el), u10, some (.ref nd), some (.ref du), some (.ref pr), some (VN one0 t1), some (VN two0 t2), u16, u17, u18, u19, u20, u21, u22, u23, u24] (LLd F0.w A x S nd du cl el pr td oN oD oC oE oP oT RL) (execs tbody (LF F0 g L).env) QF := by
  have hlc := hL.li.lc
  have hnl := hL.nl
  have hnn := hL.nn
  obtain ⟨nt, hT, hnt⟩ := hL.tb
  have lcl2 : ∀ a, a < 2 * cols.length → a >>> 1 < ns.length := fun a ha => by rw [Nat.shiftRight_eq_div_pow]; omega
  show HT _ _ ((_, _) :: _) (execs (_ :: _) _) _
  refine execs_cons_ ?_
  repeat ktr_units
  refine intN_ ?_
  repeat ktr_units
  refine len_il (by k_mem) hL.co (by omega) fun _ => ?_
  repeat ktr_units
  refine mulN_ (a := 2) (IntMulOk.of_left (by decide)) fun _ => ?_
  repeat ktr_units
  refine modZ_ (by omega) fun one t1' ho => ?_
  repeat ktr_units
  refine intN_ ?_
  repeat ktr_units
  refine len_il (by k_mem) hL.co (by omega) fun _ => ?_
  repeat ktr_units
  refine mulN_ (a := 2) (IntMulOk.of_left (by decide)) fun _ => ?_
  repeat ktr_units
  refine modZ_ (by omega) fun two t2' htw => ?_
  repeat ktr_units
  refine len_il (by k_mem) hL.co (by omega) fun tb => ?_
  repeat ktr_units
  refine ag_m_land ok (by k_mem) (by k_mem) ?_
  repeat ktr_units
  refine HT.le ?_ LLd_out
  have h1 := lcl2 one ho
  have h2 := lcl2 two htw
  refine w_land (F := LF F0 g L) (nodes := ns) (inputs := insL n) (R := R) (n := nt) ok (by show F0.lv + 1 < 38; omega) (fun p hp => by have := hR p hp; k_mem) hL.vt hL.ag hT (by omega) (by omega) (fun v t => ?_) fun E oN' oT' t h3 hN' hT' => ?_
  · refine ⟨by simp, ?_⟩
    refine HT.le ?_ (LLd_in (E := []) rfl)
    refine execs_cons_ ?_
    repeat ktr_units
    refine ag_get_nodes ok (by k_mem) (by k_mem) rfl ?_
    repeat ktr_units
    refine len_nl (by k_mem) hL.ag.N (by omega) fun _ => ?_
    repeat ktr_units
    refine bite (fun e => by have := of_decide_eq_true e; omega) fun _ => ?_
    refine execs_nil_ ?_
    refine w_chk ok hL hR ?_
    exact h A S oN oD oC oE oP oT [] ns cols kept P pats _ _ _ _ _ _ hL.up rfl
  · refine ⟨by simp, ?_⟩
    have hnl1 : (ns ++ [some (prOf one two)]).length = ns.length + 1 := by simp
    refine HT.le ?_ (LLd_in (A := A) (A1 := { A with oN := oN' }) rfl)
    refine execs_cons_ ?_
    repeat ktr_units
    refine ag_get_nodes ok (by k_mem) (by k_mem) rfl ?_
    repeat ktr_units
    refine len_nl (by k_mem) hN' (by simp; omega) fun _ => ?_
    repeat ktr_units
    refine bite (fun _ => ?_) fun e => by have := of_decide_eq_false e; rw [List.length_append, List.length_singleton] at this; omega
    rw [hlc]
    have hA1 : AgOk { A with oN := oN' } (E ++ R) (ns ++ [some (prOf one two)]) (insL n) := by
      rcases minmax one two with ⟨e1, e2⟩ | ⟨e1, e2⟩
      · exact ⟨hN', hL.ag.I, by simp; omega, hL.ag.si, wf_snoc hL.ag.wf (by rw [e1]; exact h1) (by rw [e2]; exact h2), fun k i hk => by have := hL.ag.wi k i hk; simp; omega⟩
      · exact ⟨hN', hL.ag.I, by simp; omega, hL.ag.si, wf_snoc hL.ag.wf (by rw [e1]; exact h2) (by rw [e2]; exact h1), fun k i hk => by have := hL.ag.wi k i hk; simp; omega⟩
    refine w_grow (A1 := { A with oN := oN' }) (R1 := E ++ R) (one := one) (two := two) ok hlv hn hi hL (fun p hp => List.mem_append.mpr (.inr hp)) (fun p hp => ?_) rfl hL.vt h1 h2 h3 hA1 ⟨nt + 1, hT', by omega⟩ fun S' oN2 oD2 oC2 oE2 oP2 E2 ns' cols' kept' P' pats' v10 v17 v18 hL' => ?_
    · rcases List.mem_append.mp hp with hp | hp
      · exact List.mem_append.mpr (.inl hp)
      · exact List.mem_append.mpr (.inr (hR p hp))
    · refine w_chk (A := { A with oN := oN' }) (R := E2 ++ (E ++ R)) ok hL' (fun p hp => ?_) ?_
      · simp only [List.mem_append] at hp ⊢
        rcases hp with hp | hp | hp
        · exact .inl hp
        · exact .inr (.inl hp)
        · exact .inr (.inr (hR p hp))
      · have := h { A with oN := oN' } S' oN2 oD2 oC2 oE2 oP2 oT' (E2 ++ E) ns' cols' kept' P' pats' v10 (some (VN one t1')) (some (VN two t2')) (some (VN ns.length tb)) v17 v18 (by rw [List.append_assoc]; exact hL') rfl
        rw [List.append_assoc] at this
        exact this
end
-- W23
theorem led_app {w : World} {A : Ag} {x : Addr} {S : Sg} {R E : Led} : S.led w A x R ++ E = S.led w A x (R ++ E) := by simp [Sg.led]
noncomputable def colk (n i : Nat) : List Nat := 0 :: (List.range i).map fun i => lcol i n
theorem colk_succ (n i : Nat) : colk n (i + 1) = colk n i ++ [lcol i n] := by simp [colk, List.range_succ]
theorem colk_len (n i : Nat) : (colk n i).length = i + 1 := by simp [colk]
/-- the marks after some of the first nodes are kept -/
noncomputable def mkP (P : Sd) (i : Nat) : Sd := { P with kept := List.range i, gs := clsw P.vals P.c (List.range i) }
theorem mkP_succ (P : Sd) (i : Nat) : mkP P (i + 1) = { mkP P i with kept := (mkP P i).kept ++ [i], gs := addg (mkP P i).gs (nrm ((mkP P i).vals.getD i 0) (mkP P i).c) i } := by
  simp only [mkP, List.range_succ, clsw_snoc]
section
variable {F : Fx} {vs : List (Option Value)} {D : Led} {Q : Value → List (Option Value) → Led → Prop}
theorem w_law_settled (ok : F.Ok) (hlv : F.lv < 20) {n : Nat} {tn : Tok} {wl pl : Addr} {ow op : Obj} {words : List Nat} {picks : List (Nat × Nat)} (h2 : 2 ≤ n) (h3 : n ≤ 3)
    (hwm : (wl, ow) ∈ D) (hw : IL ow words) (hwb : ∀ w ∈ words, w < 16) (hwl : words.length ≤ 10) (hpm : (pl, op) ∈ D) (hp : NL D op (picks.map some)) (hpl : picks.length ≤ 8)
    (h : Q (.bool true) vs D) : HT F vs D (call (.ref 499) [VN n tn, .ref wl, .ref pl]) Q := by
  refine callP_ ok k_law_settled (ps := [Str.ofString "n", Str.ofString "words", Str.ofString "picks"]) (ls := [Str.ofString "graph", Str.ofString "columns", Str.ofString "full", Str.ofString "i", Str.ofString "marks", Str.ofString "first", Str.ofString "expected", Str.ofString "at", Str.ofString "noted", Str.ofString "due", Str.ofString "pairs", Str.ofString "one", Str.ofString "two", Str.ofString "before", Str.ofString "column", Str.ofString "match", Str.ofString "seen", Str.ofString "bit", Str.ofString "m", Str.ofString "masked", Str.ofString "word", Str.ofString "other"]) rfl rfl rfl (by omega) ?_
  intro g L ok'
  refine HT.post ?_
  refine HT.mono (Q := fun fl _ D' => fl = .ret (.bool true) ∧ Le D D') ?_ (fun fl vs' D' ⟨e, hl⟩ => ⟨D, hl, by subst e; exact h⟩)
  show HT (LF F g L) [some _, some _, some _, none, none, none, none, none, none, none, none, none, none, none, none, none, none, none, none, none, none, none, none, none, none] D _ _
  refine execs_cons_ ?_
  repeat ktr_units
  refine w_Aig (F := LF F g L) ok' (by show F.lv + 1 < 38; omega) fun A td oT hvt hA0 hT0 => ?_
  repeat ktr_units
  rename_i cl hcl k1 k2
  refine shlN_ (by omega) (by omega) fun _ => ?_
  repeat ktr_units
  refine shlN_ (by rw [Nat.shiftLeft_eq, Nat.one_mul]; exact Nat.le_trans (Nat.pow_le_pow_right (by omega) h3) (by omega)) (by omega) fun _ => ?_
  repeat ktr_units
  refine subN_ (by rw [Nat.shiftLeft_eq]; have := Nat.two_pow_pos (1 <<< n); omega) fun tf => ?_
  refine store_ ok' (by tb_rel) ?_
  refine execs_cons_ ?_
  refine forR_ ok' (n := n) (j := 6) rfl (by omega) (fun i vs' D' => ∃ A oC u6, A.vt = .ref td ∧ AgOk A [] (List.replicate (i + 1) none) (insL i) ∧ IL oC (colk n i) ∧
    vs' = [some (VN n tn), some (.ref wl), some (.ref pl), some (.ref A.g), some (.ref cl), some (VN (fu n) tf), u6, none, none, none, none, none, none, none, none, none, none, none, none, none, none, none, none, none, none] ∧ D' = A.led F.w td oT ((cl, oC) :: D)) ?_ ?_ ?_
  · refine HT.le (D' := A.led F.w td oT ((cl, _) :: D)) ?_ (Le.pick (.tail .head) (Le.pick (.tail .head) (Le.pick (.tail .head) (Le.pick (.tail .head) (Le.pick (.tail .head) (Le.refl _))))))
    repeat ktr_units
    refine range1_ fun r t1 t2 hr => ?_
    exact ⟨_, _, _, _, _, rfl, rfl, A, _, none, hvt, hA0, ⟨_, 0, rfl, .cons .nil⟩, rfl, rfl⟩
  · rintro i t _ _ E hi ⟨A, oC, u6, hvt, hA, hC, rfl, rfl⟩
    show HT _ [_, _, _, _, _, _, _, _, _, _, _, _, _, _, _, _, _, _, _, _, _, _, _, _, _] ((_, _) :: (_, _) :: (_, _) :: (_, _) :: (_, _) :: (_, _) :: (D ++ E)) _ _
    refine execs_cons_ ?_
    repeat ktr_units
    refine ag_m_add_input ok' (by k_mem) (by k_mem) ?_
    repeat ktr_units
    refine w_add_input (F := LF F g L) (A := A) (R := (cl, oC) :: (D ++ E)) (nodes := List.replicate (i + 1) none) (inputs := insL i) ok' (by show F.lv + 1 < 38; omega) (hA.mono fun p hp => nomatch hp) (by simp; omega) (by rw [insL_len]; omega) fun oN' oI' t' hA' => ?_
    refine ⟨by simp, ?_⟩
    refine execs_cons_ ?_
    repeat ktr_units
    refine appendIL_m (by k_mem) hC ?_
    repeat ktr_units
    refine w_law_column (F := LF F g L) ok' (by show F.lv + 1 < 38; omega) hi h3 fun _ => ?_
    repeat ktr_units
    refine append_il (by tb_start) hC (by rw [colk_len]; simp only [sizeLine]; omega) fun oC' hC' => ?_
    refine ⟨by simp, ?_⟩
    repeat ktr_units
    refine ⟨({ A with oN := oN', oI := oI' } : Ag).led F.w td oT ((cl, oC') :: D), rfl, { A with oN := oN', oI := oI' }, oC', _, hvt, ?_, by rw [colk_succ]; exact hC', rfl, rfl⟩
    have e1 : List.replicate (i + 1) (none : Option (Nat × Nat)) ++ [none] = List.replicate (i + 1 + 1) none := by rw [← List.replicate_succ']
    have e2 : insL i ++ [(List.replicate (i + 1) (none : Option (Nat × Nat))).length] = insL (i + 1) := by rw [insL_succ, List.length_replicate]
    rw [e1, e2] at hA'
    obtain ⟨⟨its, m, eN, hl, hN⟩, h4, h5, h6, h7, h8⟩ := hA'
    refine ⟨⟨its, m, eN, hl, fun i p hp => ?_⟩, h4, h5, h6, h7, h8⟩
    obtain ⟨v, hv, hpv⟩ := hN i p hp
    refine ⟨v, hv, ?_⟩
    cases p with
    | none => exact hpv
    | some p =>
      rw [List.getElem?_replicate] at hp
      split at hp <;> cases hp
  · rintro _ _ ⟨A, oC, u6, hvt, hA, hC, rfl, rfl⟩
    have hpc := pc_le hwb
    refine execs_cons_ ?_
    repeat ktr_units
    refine w_Signatures (F := LF F g L) (A := A) (R := (td, oT) :: (cl, oC) :: D) ok' (by show F.lv + 1 < 34; omega) (hA.mono fun p hp => nomatch hp) (by k_mem) hw (by omega) (by omega) fun x S hS => ?_
    generalize hP : Sd.fresh (List.replicate (n + 1) none) (insL n) ⟨rw0 words (1 <<< pc words - 1) (insL n).length, [], [], pc words, []⟩ = P at hS
    have hPc : P.c = pc words := by rw [← hP]; rfl
    have hPk : P.kept = [] := by rw [← hP]; rfl
    have hPg : P.gs = [] := by rw [← hP]; rfl
    have hSc := hS.c
    have hlp := LP0 h2 h3 hwb hP.symm
    have hvl : P.vals.length = n + 1 := by have := hlp.M.vl; simpa using this
    repeat ktr_units
    refine sg_get_count ok' (by k_mem) (by k_mem) rfl ?_
    rw [hSc, hPc]
    repeat ktr_units
    refine range1_ fun r t1 t2 hr => ?_
    repeat ktr_units
    refine listRange_ (F := LF F g L) ok' (r := r) (n := n + 1) (.head _) (by omega) fun el oE hE hel => ?_
    refine store_ ok' (by tb_rel) ?_
    refine HT.le (D' := (el, oE) :: S.led F.w A x ((td, oT) :: (cl, oC) :: D)) ?_ (Le.cons (Le.skip (Le.refl _)))
    refine HT.le (D' := S.led F.w A x ((el, oE) :: (td, oT) :: (cl, oC) :: D)) ?_ led_move
    refine execs_cons_ ?_
    refine forIL_ ok' (l := el) (o := oE) (ws := List.range (n + 1)) (j := 10) rfl hE (fun i vs' D' => ∃ S' : Sg, ∃ u10, S'.Is F.w (mkP P i) ∧
      vs' = [some (VN n tn), some (.ref wl), some (.ref pl), some (.ref A.g), some (.ref cl), some (VN (fu n) tf), u6, some (.ref x), some (VN (pc words) S.tc), some (.ref el), u10, none, none, none, none, none, none, none, none, none, none, none, none, none, none] ∧ D' = S'.led F.w A x ((el, oE) :: (td, oT) :: (cl, oC) :: D)) ?_ ?_ ?_ ?_
    · repeat ktr_units
      refine ⟨rfl, S, none, ?_, rfl, rfl⟩
      have e : mkP P 0 = P := by
        obtain ⟨a, b, c, d, e⟩ := P
        dsimp only at hPk hPg
        subst hPk hPg
        rfl
      rw [e]; exact hS
    · rintro i _ _ ⟨S', u10, hS', rfl, rfl⟩
      k_mem
    · rintro i k t _ _ E hk ⟨S', u10, hS', rfl, rfl⟩
      have hk : i < n + 1 ∧ k = i := by
        rw [List.getElem?_eq_some_iff] at hk
        obtain ⟨h1, h2⟩ := hk
        simp at h1 h2
        exact ⟨h1, h2.symm⟩
      obtain ⟨hi, rfl⟩ := hk
      rw [led_app]
      show HT _ [_, _, _, _, _, _, _, _, _, _, _, _, _, _, _, _, _, _, _, _, _, _, _, _, _] ((_, _) :: _) _ _
      refine execs_cons_ ?_
      repeat ktr_units
      refine sg_m_keep ok' (by k_mem) (by k_mem) ?_
      repeat ktr_units
      refine w_keep (F := LF F g L) (S := S') (P := mkP P k) ok' (by show F.lv + 1 < 38; omega) hS' (by show k < P.vals.length; omega) (by simp [mkP]; omega) (Nat.lt_of_le_of_lt (clsw_len _ _ _) (by simp; omega)) fun S2 hS2 => ?_
      refine ⟨by simp, ?_⟩
      repeat ktr_units
      exact ⟨_, led_app.symm, S2, _, by rw [mkP_succ]; exact hS2, rfl, rfl⟩
    · rintro _ _ ⟨S1, u10, hS1, rfl, rfl⟩
      rw [List.length_range] at hS1
      repeat ktr_units
      refine mulNone_ (F := LF F g L) (.head _) (by omega) fun pr oP hoP hpr => ?_
      rename_i nd oN hnd hoN du oD hdu hoD ll hll tk tk2
      refine store_ ok' (by tb_rel) ?_
      refine HT.le (D' := LLd F.w A x S1 nd du cl el pr td oN oD oC oE oP oT ([] ++ D)) ?_ ?_
      rotate_left
      · exact Le.pick (.tail (.tail (.tail (.tail .head)))) (Le.pick (.tail (.tail (.tail (.tail .head)))) (Le.pick (.tail (.tail (.tail (.tail .head)))) (Le.pick (.tail (.tail (.tail (.tail .head)))) (Le.pick (.tail (.tail (.tail (.tail .head)))) (Le.pick (.tail (.tail (.tail (.tail .head)))) (Le.pick (.tail (.tail (.tail (.tail .head)))) (Le.pick (.tail (.tail (.tail (.tail .head)))) (Le.pick (.tail (.tail (.tail (.tail .head)))) (Le.pick (.tail (.tail (.tail (.tail .head)))) (Le.trans (Le.app (Le.pick (.tail (.tail (.tail .head))) (Le.pick (.tail (.tail .head)) (Le.pick (.tail (.tail (.tail (.tail .head)))) (Le.pick (.tail (.tail .head)) (Le.pick .head (Le.pick (.tail .head) (Le.skip (Le.refl _))))))))) (Le.mids (E := [_, _, _, _]))))))))))))
      refine execs_cons_ ?_
      refine forNL_ ok' (jx := 14) (jy := 15) (l := pl) (o := op) (ps := picks) (R := D) rfl rfl hp (fun i vs' D' => ∃ (A' : Ag) (S' : Sg) (oN oD oC oE oP oT : Obj) (R0 : Led) (ns : List (Option (Nat × Nat))) (cols kept : List Nat) (P' : Sd) (pats : List Pat) (u10 u14 u15 u16 u17 u18 : Option Value),
        LS F.w n (pc words) td A' S' oN oD oC oE oP oT R0 i ns cols kept P' pats ∧ A'.g = A.g ∧
        vs' = [some (VN n tn), some (.ref wl), some (.ref pl), some (.ref A.g), some (.ref cl), some (VN (fu n) tf), u6, some (.ref x), some (VN (pc words) S.tc), some (.ref el), u10, some (.ref nd), some (.ref du), some (.ref pr), u14, u15, u16, u17, u18, none, none, none, none, none, none] ∧ D' = LLd F.w A' x S' nd du cl el pr td oN oD oC oE oP oT (R0 ++ D)) ?_ ?_ ?_ ?_
      · repeat ktr_units
        exact ⟨rfl, A, S1, oN, oD, oC, oE, oP, oT, [], List.replicate (n + 1) none, colk n n, List.range (n + 1), mkP P (n + 1), pats0 n words, u10, none, none, none, none, none,
          ⟨LI0 h2 h3, hlp, hA, hvt, hS1, ⟨[], [], [], hoN, .nil, hoD, .nil, Nat.zero_le _, (fun p hp => nomatch hp), List.nodup_nil⟩, hC, hE, hoP, ⟨0, hT0, Nat.le_refl _⟩, by simp, by simp, by simp⟩, rfl, rfl, rfl⟩
      · rintro i _ _ ⟨A', S', oN, oD, oC, oE, oP, oT, R0, ns, cols, kept, P', pats, u10, u14, u15, u16, u17, u18, hL, hg, rfl, rfl⟩
        refine ⟨?_, fun p hp => ?_⟩
        · k_mem
        · k_mem
      · rintro i p t u _ _ E hpi ⟨A', S', oN, oD, oC, oE, oP, oT, R0, ns, cols, kept, P', pats, u10, u14, u15, u16, u17, u18, hL, hg, rfl, rfl⟩
        have hi : i < picks.length := (List.getElem?_eq_some_iff.mp hpi).1
        rw [LLd_app, ← hg]
        refine w_turn (R := R0) ok' hlv h3 (by omega) hL (fun p hp => by k_mem) fun A2 S2 oN2 oD2 oC2 oE2 oP2 oT2 E2 ns2 cols2 kept2 P2 pats2 v10 v14 v15 v16 v17 v18 hL2 hg2 => ?_
        refine ⟨LLd F.w A2 x S2 nd du cl el pr td oN2 oD2 oC2 oE2 oP2 oT2 ((E2 ++ R0) ++ D), by rw [LLd_app]; simp only [List.append_assoc], A2, S2, oN2, oD2, oC2, oE2, oP2, oT2, E2 ++ R0, ns2, cols2, kept2, P2, pats2, v10, v14, v15, v16, v17, v18, hL2, hg2, rfl, rfl⟩
      · rintro _ _ ⟨A', S', oN, oD, oC, oE, oP, oT, R0, ns, cols, kept, P', pats, u10, u14, u15, u16, u17, u18, hL, hg, rfl, rfl⟩
        have hnl := hL.nl
        have hkl := hL.kl
        refine HT.mono (w_fin (A := A') (S := S') ok' hlv h3 hL.li hL.lp hL.sg (by omega) (by omega) (by k_mem) (by k_mem) (by k_mem) (by k_mem) (by k_mem) (by k_mem) hL.co hL.ex) ?_
        rintro fl _ D1 ⟨rfl, hl⟩
        exact ⟨rfl, Le.trans (Le.skip (Le.skip (Le.skip (Le.skip (Le.skip (Le.skip (Le.skip (Le.skip (Le.skip (Le.skip (Le.skips (Le.skip (Le.skip (Le.skip (Le.skip (Le.skip (Le.skip (Le.skips (Le.refl _))))))))))))))))))) hl⟩
end
-- W24
section
variable {F : Fx} {vs : List (Option Value)} {D : Led} {Q : Value → List (Option Value) → Led → Prop}
theorem w_law_pick (ok : F.Ok) (hlv : F.lv < 38) {cl pt : Addr} {oc op : Obj} {cs : List Nat} {a b c k : Nat} {t : Tok} (hc : (cl, oc) ∈ D) (hcs : IL oc cs) (hcl : cs.length ≤ 1000) (hps : IL op [a, b, c]) (ha : a ≤ 1000) (hk : 0 < k) (hk2 : k ≤ 1000)
    (h : ∀ v t o' a' b' c', v < k → IL o' [a', b', c'] → a' ≤ 1000 → Q (VN v t) vs ((pt, o') :: D)) : HT F vs ((pt, op) :: D) (call (.ref 485) [.ref cl, .ref pt, VN k t]) Q := by
  refine callP_ ok k_law_pick (ps := [Str.ofString "cells", Str.ofString "pot", Str.ofString "limit"]) (ls := [Str.ofString "digit", Str.ofString "number"]) rfl rfl rfl (by omega) ?_
  intro g L ok'
  show HT _ [some _, some _, some _, none, none] ((_, _) :: _) _ _
  refine execs_cons_ ?_
  repeat ktr_units
  refine tail_il (.head _) hps (n := b) rfl (by omega) fun _ => ?_
  repeat ktr_units
  refine bite (fun _ => ?_) fun _ => ?_
  · repeat ktr_units
    refine tail_il (.head _) hps (n := b) rfl (by omega) fun _ => ?_
    repeat ktr_units
    refine intN_ ?_
    repeat ktr_units
    refine modN_ hk fun _ => ?_
    repeat ktr_units
    refine tail_il (.head _) hps (n := b) rfl (by omega) fun _ => ?_
    repeat ktr_units
    refine intN_ ?_
    repeat ktr_units
    refine fdivN_ hk (by omega) fun _ => ?_
    repeat ktr_units
    refine setItem_il .head hps (by simp) (by omega) fun o' ho' => ?_
    repeat ktr_units
    exact h _ _ o' _ _ _ (Nat.mod_lt _ hk) ho' ha
  repeat ktr_units
  refine tail_il (.head _) hps (n := a) rfl (by omega) fun _ => ?_
  repeat ktr_units
  refine len_il (by k_mem) hcs (by omega) fun _ => ?_
  repeat ktr_units
  refine bite (fun e => ?_) fun _ => ?_
  · have e := of_decide_eq_true e
    repeat ktr_units
    refine tail_il (.head _) hps (n := a) rfl (by omega) fun _ => ?_
    repeat ktr_units
    refine tail_il (by k_mem) hcs (getD_some e) (by omega) fun _ => ?_
    repeat ktr_units
    refine item_il (.head _) hps (n := a) rfl (by omega) fun _ => ?_
    repeat ktr_units
    refine setItem_il .head hps (by simp) (by omega) fun o1 ho1 => ?_
    repeat ktr_units
    refine powN_ (by omega) (by omega) fun _ => ?_
    repeat ktr_units
    refine bite (fun _ => ?_) fun _ => ?_
    · repeat ktr_units
      refine intN_ ?_
      repeat ktr_units
      refine fdivN_ hk (by omega) fun _ => ?_
      repeat ktr_units
      refine setItem_il .head ho1 (by simp) (by omega) fun o' ho' => ?_
      repeat ktr_units
      refine intN_ ?_
      repeat ktr_units
      refine modN_ hk fun _ => ?_
      exact h _ _ o' _ _ _ (Nat.mod_lt _ hk) ho' (by omega)
    · repeat ktr_units
      refine tail_il (.head _) ho1 (n := c) rfl (by omega) fun _ => ?_
      repeat ktr_units
      refine mulN_ (b := 37) (IntMulOk.of_right (by decide)) fun _ => ?_
      repeat ktr_units
      refine intN_ ?_
      repeat ktr_units
      refine modN_ (by decide) fun _ => ?_
      repeat ktr_units
      refine setItem_il .head ho1 (by simp) (by omega) fun o' ho' => ?_
      repeat ktr_units
      refine intN_ ?_
      repeat ktr_units
      refine modN_ hk fun _ => ?_
      exact h _ _ o' _ _ _ (Nat.mod_lt _ hk) ho' (by omega)
  · repeat ktr_units
    refine tail_il (.head _) hps (n := c) rfl (by omega) fun _ => ?_
    repeat ktr_units
    refine mulN_ (b := 13) (IntMulOk.of_right (by decide)) fun _ => ?_
    repeat ktr_units
    refine intN_ ?_
    repeat ktr_units
    refine modN_ (by decide) fun _ => ?_
    repeat ktr_units
    refine setItem_il .head hps (by simp) (by omega) fun o' ho' => ?_
    repeat ktr_units
    refine tail_il (.head _) ho' (n := (c * 13 + 7) % 1009) rfl (by omega) fun _ => ?_
    repeat ktr_units
    refine intN_ ?_
    repeat ktr_units
    refine modN_ hk fun _ => ?_
    exact h _ _ o' _ _ _ (Nat.mod_lt _ hk) ho' ha
end
-- W25
noncomputable abbrev lcScope : Scope := { kind := .function, names := [(Str.ofString ".0", .local), (Str.ofString "cell", .local), (Str.ofString "int", .globalImplicit)], isGenerator := false, isCoroutine := false }
section
variable {F : Fx} {vs : List (Option Value)} {D : Led}
noncomputable abbrev celE (p1 p2 p3 p4 p5 p6 p7 : Pos) (k1 k2 : Nat) : PySem.Expr :=
  .BinOp (.Call (.Name (Str.ofString "int") p1) [.Name (Str.ofString "cell") p2] [] p3) .Mod (.BinOp (.Constant (.int 10) k1 p4) .Pow (.Constant (.int 60) k2 p5) p6) p7
theorem cell_elt (ok : F.Ok) {C : Addr} {oC : Obj} {m₂ : Str → Option Value} {z : Int} {t : Tok} {p1 p2 p3 p4 p5 p6 p7 k1 k2} (hm : (C, oC) ∈ D) (hC : LCg.NsObj oC m₂) (hx : m₂ (Str.ofString "cell") = some (.int z t)) :
    HT F vs D (eval (celE p1 p2 p3 p4 p5 p6 p7 k1 k2) (compEnvC lcScope [] C F.env)) fun v vs' D' => vs' = vs ∧ D' = D ∧ ∃ k t', v = VN k t' := by
  intro s hs
  obtain ⟨_, _, _, T⟩ := ok.T
  refine wpAny_BinOp ?_
  refine wpAny_Call_NameR ?_
  refine LCgL.ld_built (v := .type "int") hs.fr ok.K T (nb_int _) (by kernel_rfl) (by decide) ?_
  refine PySem.callWith_type rfl (evalArgs_plain ?_)
  refine wpAny_items_cons (LCgL.ld_own hs.nw hm hC hx ?_)
  refine wpAny_items_nil ?_
  refine call_int_int ?_
  refine wpAny_BinOp ?_
  refine wpAny_Constant_int ?_
  refine wpAny_Constant_int ?_
  refine pow_int_small (by omega) (by omega) (by omega) ?_
  refine PyProof.Rows.mod_int (by decide) ?_
  have h1 : 0 ≤ z.fmod ((10 : Int) ^ (60 : Int).toNat) := Int.fmod_nonneg_of_pos _ (by decide)
  have e : ∀ u, Value.int (z.fmod ((10 : Int) ^ (60 : Int).toNat)) u = VN (z.fmod ((10 : Int) ^ (60 : Int).toNat)).toNat u := fun u => by
    unfold VN
    rw [Int.toNat_of_nonneg h1]
  exact ⟨vs, D, hs.tok, rfl, rfl, _, _, e _⟩
variable {QF : Flow → List (Option Value) → Led → Prop}
theorem asgCells_ (ok : F.Ok) {iter : PySem.Expr} {px py pos spos : Pos} {y : Str} {j : Nat} {p1 p2 p3 p4 p5 p6 p7 k1 k2} (hj : F.xs[j]? = some y)
    (hiter : HT F vs D (eval iter F.env) fun v vs' D' => ∃ l ol zs, v = .ref l ∧ vs' = vs ∧ (l, ol) ∈ D' ∧ IA ol zs ∧ zs.length ≤ 1000 ∧ ∀ a o ks, IL o ks → ks.length = zs.length → QF .next (vs.set j (some (.ref a))) ((a, o) :: D'))
    (hsw : swapsWith (.ListComp (celE p1 p2 p3 p4 p5 p6 p7 k1 k2) [⟨.Name (Str.ofString "cell") px, iter, [], 0⟩] lcScope pos) (some (.Name y py)) spos.line F.env = pure true := by rfl)
    (hclos : closureFor lcScope F.env = pure [] := by rfl) (hs : ∀ x, foldedSetIterable iter F.env x = pure x := by intro _; rfl) :
    HT F vs D (exec (.Assign [.Name y py] (.ListComp (celE p1 p2 p3 p4 p5 p6 p7 k1 k2) [⟨.Name (Str.ofString "cell") px, iter, [], 0⟩] lcScope pos) spos) F.env) QF := by
  intro s hs1
  have hxm : y ∈ F.xs := List.mem_of_getElem? hj
  refine LCg.Assign_ListComp_U hs1.fr rfl hsw hclos (by decide) rfl (by decide) rfl (ok.loc y hxm) (by show ((F.scope.kind == .class || (F.scope.kind == .module && _)) = false); rw [ok.kind]; rfl) ?_ hs
  refine hiter.use hs1 fun v s2 vs2 D2 h2 ⟨l, ol, zs, e1, e2, hm, hi, hz, fin⟩ => ?_
  subst e1 e2
  obtain ⟨its, n, hon, hna⟩ := hi
  subst hon
  have hil := hna.length
  refine LCg.CompSrc.ledger ok.hd h2.fr h2.nw hm (by simp [sizeLine]; omega) fun g2 => ?_
  have main : ∀ k i ys ks, i + k = its.length → NA ys ks → ks.length = i → LCg.CompRest PySem.Challenge.pw_sj0059_01 F.w F.A F.g F.L (lay F.xs vs2) F.env (celE p1 p2 p3 p4 p5 p6 p7 k1 k2) (Str.ofString "cell") lcScope [] { s2 with heap := g2 } (LCg.SrcAt F.g l its.toArray) (fun i v => its.toArray[i]? = some v) (LCg.FinA F.g F.L (lay F.xs vs2) { s2 with heap := g2 } y fun f s' => ∃ vs' D', St F vs' D' s' ∧ QF f vs' D') k i ys D2 := by
    intro k
    induction k with
    | zero =>
      intro i ys ks hi hy hk
      refine LCg.CompRest.zero fun Dd h tk F' N' off => ?_
      refine ⟨vs2.set j (some (.ref Dd)), (Dd, LCg.lst ys) :: D2, ⟨?_, N', List.nodup_cons.mpr ⟨fun hm => ?_, h2.nd⟩, by simp [h2.ln], h2.gens, h2.os⟩, fin _ _ ks ⟨ys, _, rfl, hy⟩ (by omega)⟩
      · rw [← (put_set hj h2.ln).lay ok.nd]; exact F'
      · obtain ⟨q, hq, e⟩ := List.mem_map.mp hm
        exact off1_mem off q hq e
    | succ k ih =>
      intro i ys ks hi hy hk
      refine LCg.CompRest.succ fun v I oI C oC Dd m₂ h tk E' hv hC hmx F' N' off ne => ?_
      have hv : its[i]? = some v := by simpa using hv
      obtain ⟨z, t, rfl, hzz⟩ := hna.at i v hv
      have hst : St F vs2 ((I, oI) :: (C, oC) :: (Dd, LCg.lst ys) :: D2) { s2 with heap := h, toks := tk } := by
        refine ⟨F', N', ?_, h2.ln, h2.gens, h2.os⟩
        have off3 := off.mem
        refine List.nodup_cons.mpr ⟨fun hm => ?_, List.nodup_cons.mpr ⟨fun hm => ?_, List.nodup_cons.mpr ⟨fun hm => ?_, h2.nd⟩⟩⟩
        · rcases List.mem_cons.mp hm with e | hm
          · exact ne.1 e
          · rcases List.mem_cons.mp hm with e | hm
            · exact ne.2.1 e
            · obtain ⟨q, hq, e⟩ := List.mem_map.mp hm
              exact (off3 q hq).1 e
        · rcases List.mem_cons.mp hm with e | hm
          · exact ne.2.2 e
          · obtain ⟨q, hq, e⟩ := List.mem_map.mp hm
            exact (off3 q hq).2.1 e
        · obtain ⟨q, hq, e⟩ := List.mem_map.mp hm
          exact (off3 q hq).2.2 e
      refine wpAny_mono (cell_elt ok (.tail _ (.head _)) hC hmx _ hst) (fun y' s4 ⟨vs4, D4, h4, e1, e2, kn, t', e3⟩ => ?_) fun _ _ x => x.elim
      subst e1 e2 e3
      refine ⟨s4.heap, s4.toks, D2, ?_, h4.fr, h4.nw, off, .inr ⟨_, hm, rfl, _, rfl⟩, ih (i + 1) _ (ks ++ [kn]) (by omega) hy.snoc (by simp [hk])⟩
      exact shared_eq (h4.gens.trans h2.gens.symm) (h4.os.2.trans h2.os.2.symm) (h4.os.1.trans h2.os.1.symm)
  exact main its.length 0 [] [] (by omega) .nil rfl
end
-- W26
section
variable {F : Fx} {vs : List (Option Value)} {D : Led} {Q : Value → List (Option Value) → Led → Prop} {QF : Flow → List (Option Value) → Led → Prop}
theorem listOld_ (ok : F.Ok) {l : Addr} {its : List Value} {zs : List Int} (hl : F.g.IsList l its.toArray) (hi : IntsAre its zs) (hz : zs.length ≤ 1000) (h : ∀ a o, IA o zs → Q (.ref a) vs ((a, o) :: D)) : HT F vs D (call (.type "list") [.ref l]) Q := fun s hs => by
  obtain ⟨o, ho, hr⟩ := hl
  refine list_copyK (items := its.toArray) hs.fr hs.nw ⟨o, hs.fr.keep _ _ ho, hr⟩ (fun a c h' F' N' hlt => ?_) (by have := hi.length; simp [sizeLine]; omega)
  exact ⟨_, _, hs.cons F' N' (fun p hp => Nat.ne_of_lt (hlt p hp)) (k := s.toks), h a _ ⟨its, c, rfl, hi⟩⟩
/-- xs[:k] of ints of any sign; xs may be a temporary -/
theorem sliceTo2_ {value upper : PySem.Expr} {sp pos : Pos}
    (hv : HT F vs D (eval value F.env) fun v vs1 D1 => HT F vs1 D1 (eval upper F.env) fun i vs2 D2 => ∃ l o zs k t, v = .ref l ∧ i = VN k t ∧ (l, o) ∈ D2 ∧ IA o zs ∧ zs.length ≤ 1000 ∧ ∀ a o', IA o' (zs.take k) → Q (.ref a) vs2 ((a, o') :: D2))
    (hs : ∀ l r, subscripted (.Slice none (some upper) none sp) false (.ref l) (.ref r) = operate [.ref r, .ref l] (getItem (.ref l) (.ref r)) := by intro _ _; with_unfolding_all rfl) : HT F vs D (eval (.Subscript value (.Slice none (some upper) none sp) pos) F.env) Q := fun s hs' =>
  Subscript_ (hv.use hs' fun v s1 vs1 D1 h1 h2 => wpAny_Slice (wpAny_pure (h2.use h1 fun i s2 vs2 D2 h3 ⟨l, o, zs, k, t, e1, e2, hm, hi, hz, h⟩ => by
    subst e1 e2
    obtain ⟨its, n, rfl, hna⟩ := hi
    refine wpAny_pure (kba_turn (value' := PySem.Expr.Name (PySem.Str.ofString "_") ⟨0, 0, 0, 0⟩) (fun _ => rfl) ?_)
    refine slice_list (items := its.toArray) h3.fr h3.nw (PySem.IsL.isList (n := n) (h3.get hm)) .none (.int _ _) (fun h' F' N' => ?_) (hs _ _) (fun _ => rfl) (by have := hna.length; simp [sizeLine]; omega)
    refine ⟨_, _, h3.cons F' N' (fun p hp => Nat.ne_of_lt (Nat.lt_succ_of_lt (h3.lt hp))) (k := s2.toks), h _ _ ⟨(slicePick its.toArray none (some (k : Int)) none).toList, 0, by simp, ?_⟩⟩
    have := kmk_upto hna (y := (k : Int)) (by omega)
    rwa [Int.toNat_natCast] at this)))
/-- for over range(n), n told by the iterable's own evaluation -/
theorem forRE_ (ok : F.Ok) {x : Str} {px : Pos} {iter : PySem.Expr} {body : List Stmt} {pos : Pos} {j : Nat} (hj : F.xs[j]? = some x)
    (hiter : HT F vs D (eval iter F.env) fun v vs1 D1 => ∃ (n : Nat) (r : Addr) (t u w : Tok) (D2 : Led) (I : Nat → List (Option Value) → Led → Prop), n < 2 ^ 60 ∧ v = .ref r ∧ D1 = (r, rngOf 0 n 1 t u w) :: D2 ∧ I 0 vs1 D2 ∧
      (∀ (i : Nat) t vs D E, i < n → I i vs D → HT F (vs.set j (some (VN i t))) (D ++ E) (execs body F.env) (Turn (I (i + 1)) QF E)) ∧ (∀ vs D, I n vs D → QF .next vs D))
    (hs : ∀ x, foldedSetIterable iter F.env x = pure x := by intro _; rfl) : HT F vs D (exec (.For (.Name x px) iter body [] pos) F.env) QF := by
  intro s hs'
  refine wpAny_For (hiter.use hs' fun v s1 vs1 D1 h1 ⟨n, r, t, u, w, D2, I, hn, e, e2, hI, turn, done⟩ => ?_) hs
  subst e e2
  have hz : Builtin.Range.rangeSize 0 (n : Int) 1 = n := by
    rw [rangeSize_one]
    split <;> omega
  refine wpAny_pyIter_range (h1.get (.head _)) (small_one (by omega) (by omega) (by omega) (by omega)) ?_
  rw [hz]
  have hS : St F vs1 (D2 ++ [(s1.heap.objs.size, { cls := .type "range_iterator", data := .fields #[rawInt 0, rawInt n, rawInt 1] })]) { s1 with heap := s1.heap.push { cls := .type "range_iterator", data := .fields #[rawInt 0, rawInt n, rawInt 1] } } := by
    have q := h1.push { cls := .type "range_iterator", data := .fields #[rawInt 0, rawInt n, rawInt 1] } (k := s1.toks)
    refine St.swap (E := [_]) ⟨q.fr, fun p hp => q.nw p ?_, ?_, q.ln, q.gens, q.os⟩
    · rcases List.mem_cons.mp hp with rfl | hp
      · exact .head _
      · exact .tail _ (.tail _ hp)
    · have := q.nd
      simp only [List.map_cons, List.nodup_cons, List.mem_cons, not_or, List.singleton_append] at this ⊢
      exact ⟨this.1.2, this.2.2⟩
  refine for_core n (rio 0 n) (fun i v => ∃ t, v = .int (0 + (i : Int)) t) I _ ?_ ?_ ?_ ?_ done (by simp [rio]) hI hS
  · intro i o vs D s hi ho hI hs
    obtain ⟨z1, z2, z3, z4⟩ := hs.lastNe
    subst ho
    refine wpAny_pyNext_range_item (x := 0 + (i : Int)) (left := (n : Int) - 0 - i) (step := 1) z3 (by omega) fun h' hit hb => ⟨_, _, rfl, ⟨_, rfl⟩, ?_, hs.upd Up.last hb hit⟩
    unfold rio
    have e1 : 0 + (i : Int) + 1 = 0 + ((i + 1 : Nat) : Int) := by omega
    have e2 : (n : Int) - 0 - (i : Int) - 1 = (n : Int) - 0 - ((i + 1 : Nat) : Int) := by omega
    rw [e1, e2]
  · intro o vs D s ho hI hs
    obtain ⟨z1, z2, z3, z4⟩ := hs.lastNe
    subst ho
    refine wpAny_pyNext_range_end ok.hd z3 (by omega) fun h' hx => ⟨rfl, hs.ext hx z1 z2 z4 (k := s.toks)⟩
  · intro i v o vs D s _ _ _
    exact own_name
  · rintro i v vs D E hi ⟨t, rfl⟩ hI
    have := turn i t vs D E hi hI
    unfold VN at this
    rw [Int.zero_add]
    exact assignName_ ok hj this
inductive PVs (R : Led) : List Value → List (Option (Nat × Nat)) → Prop
  | nil : PVs R [] []
  | cons {v p its ps} (h : PV R v p) (r : PVs R its ps) : PVs R (v :: its) (p :: ps)
theorem PVs.nl {R its ps n} (h : PVs R its ps) : NL R (W.listOf its.toArray n) ps := by
  refine ⟨its, n, rfl, ?_, ?_⟩
  · induction h with
    | nil => rfl
    | cons _ _ ih => simp [ih]
  · induction h with
    | nil => intro i p hp; simp at hp
    | cons h _ ih =>
      intro i p hp
      cases i with
      | zero => simp at hp; subst hp; exact ⟨_, rfl, h⟩
      | succ i => simpa using ih i p (by simpa using hp)
end
@[reducible] noncomputable def LWx (w : World) (g : Heap) (L f : Addr) (cd : Value) (gens : Array GenState) (os : OsState) (dr : Drawn) : Fx :=
  { w := w, g := g, L := L, A := callerA.deeper (envX (Str.ofString "law") (scp (stAt 40)) L f cd []), A₀ := callerA, base := g, outer := [], qual := Str.ofString "law", scope := scp (stAt 40), f := f, cd := cd, xs := d_law.xs, gens := gens, os := os, dr := dr, lv := 0 }
section
variable {w : World} {g : Heap} {L f : Addr} {cd : Value} {gens : Array GenState} {os : OsState} {dr : Drawn}
theorem w_law_b (ok : (LWx w g L f cd gens os dr).Ok) {cl pt : Addr} {oc op : Obj} {cs : List Nat} {a b c : Nat} {sc : Value} (hcs : IL oc cs) (hcl : cs.length ≤ 1000) (hps : IL op [a, b, c]) (ha : a ≤ 1000) :
    HT (LWx w g L f cd gens os dr) [some sc, some (.ref cl), some (.ref pt), none, none, none, none, none, none] [(pt, op), (cl, oc)] (execs (d_law.body.drop 3) (LWx w g L f cd gens os dr).env) fun fl _ _ => fl = .ret (.bool true) := by
  show HT _ _ _ (execs (_ :: _) _) _
  refine execs_cons_ ?_
  repeat ktr_units
  refine w_law_pick (F := LWx w g L f cd gens os dr) ok (by show 0 < 38; omega) (by k_mem) hcs hcl hps ha (by omega) (by omega) fun n1 t1 o1 a1 b1 c1 hn1 ho1 ha1 => ?_
  repeat ktr_units
  rename_i tn wl hwl
  refine HT.le (D' := [(pt, o1), (wl, _), (cl, oc)]) ?_ (Le.pick (.tail .head) (Le.pick .head (Le.pick .head Le.nil)))
  refine forRE_ ok (j := 5) rfl ?_
  repeat ktr_units
  refine w_law_pick (F := LWx w g L f cd gens os dr) ok (by show 0 < 38; omega) (by k_mem) hcs hcl ho1 ha1 (by omega) (by omega) fun n2 t2 o2 a2 b2 c2 hn2 ho2 ha2 => ?_
  repeat ktr_units
  refine range1_ fun r u1 u2 hr => ?_
  refine ⟨n2, r, _, _, _, _, fun i vs' D' => ∃ op a b c ow ws u5, IL op [a, b, c] ∧ a ≤ 1000 ∧ IL ow ws ∧ ws.length = i ∧ (∀ w ∈ ws, w < 16) ∧
    vs' = [some sc, some (.ref cl), some (.ref pt), some (VN (2 + n1) tn), some (.ref wl), u5, none, none, none] ∧ D' = [(pt, op), (wl, ow), (cl, oc)], by omega, rfl, rfl, ⟨o2, a2, b2, c2, _, [], _, ho2, ha2, ⟨[], 0, rfl, .nil⟩, rfl, (fun w hw => nomatch hw), rfl, rfl⟩, ?_, ?_⟩
  · rintro i t _ _ E hi ⟨op, a, b, c, ow, ws, u5, hop, ha, how, hwl, hws, rfl, rfl⟩
    show HT _ [_, _, _, _, _, _, _, _, _] ((_, _) :: (_, _) :: (_, _) :: E) _ _
    refine execs_cons_ ?_
    repeat ktr_units
    refine appendIL_m (by k_mem) how ?_
    repeat ktr_units
    refine w_law_pick (F := LWx w g L f cd gens os dr) ok (by show 0 < 38; omega) (by k_mem) hcs hcl hop ha (by omega) (by omega) fun n3 t3 o3 a3 b3 c3 hn3 ho3 ha3 => ?_
    repeat ktr_units
    refine append_il (by tb_start) how (by simp only [sizeLine]; omega) fun ow' how' => ?_
    refine ⟨by simp, ?_⟩
    repeat ktr_units
    refine ⟨[(pt, o3), (wl, ow'), (cl, oc)], rfl, o3, a3, b3, c3, ow', ws ++ [n3], _, ho3, ha3, how', by simp [hwl], fun w hw => ?_, rfl, rfl⟩
    rcases List.mem_append.mp hw with hw | hw
    · exact hws w hw
    · rw [List.mem_singleton.mp hw]; exact hn3
  · rintro _ _ ⟨op, a, b, c, ow, ws, u5, hop, ha, how, hwl, hws, rfl, rfl⟩
    repeat ktr_units
    rename_i pl hpl
    refine HT.le (D' := [(pt, op), (pl, _), (wl, ow), (cl, oc)]) ?_ (Le.pick (.tail .head) (Le.pick .head (Le.pick .head (Le.pick .head Le.nil))))
    refine forRE_ ok (j := 7) rfl ?_
    repeat ktr_units
    refine w_law_pick (F := LWx w g L f cd gens os dr) ok (by show 0 < 38; omega) (by k_mem) hcs hcl hop ha (by omega) (by omega) fun n4 t4 o4 a4 b4 c4 hn4 ho4 ha4 => ?_
    repeat ktr_units
    refine range1_ fun r u1 u2 hr => ?_
    refine ⟨2 + n4, r, _, _, _, _, fun i vs' D' => ∃ op a b c ol ps T u7 u8, IL op [a, b, c] ∧ a ≤ 1000 ∧ NL T ol (ps.map some) ∧ ps.length = i ∧
      vs' = [some sc, some (.ref cl), some (.ref pt), some (VN (2 + n1) tn), some (.ref wl), u5, some (.ref pl), u7, u8] ∧ D' = (pt, op) :: (pl, ol) :: (wl, ow) :: (cl, oc) :: T, by omega, rfl, rfl, ⟨o4, a4, b4, c4, _, [], [], _, _, ho4, ha4, NL.nil, rfl, rfl, rfl⟩, ?_, ?_⟩
    · rintro i t _ _ E hi ⟨op, a, b, c, ol, ps, T, u7, u8, hop, ha, hol, hps, rfl, rfl⟩
      show HT _ [_, _, _, _, _, _, _, _, _] ((_, _) :: (_, _) :: (_, _) :: (_, _) :: (T ++ E)) _ _
      refine execs_cons_ ?_
      repeat ktr_units
      refine w_law_pick (F := LWx w g L f cd gens os dr) ok (by show 0 < 38; omega) (by k_mem) hcs hcl hop ha (by omega) (by omega) fun n5 t5 o5 a5 b5 c5 hn5 ho5 ha5 => ?_
      repeat ktr_units
      refine appendNL_m (by k_mem) hol ?_
      repeat ktr_units
      refine w_law_pick (F := LWx w g L f cd gens os dr) ok (by show 0 < 38; omega) (by k_mem) hcs hcl ho5 ha5 (by omega) (by omega) fun n6 t6 o6 a6 b6 c6 hn6 ho6 ha6 => ?_
      repeat ktr_units
      rename_i bt hbt
      refine append_nl (by tb_start) (hol.mono (R' := (bt, tupOf [VN n5 t5, VN n6 t6]) :: T) fun p hp => .tail _ hp) (p := some (n5, n6)) ⟨bt, t5, t6, rfl, .head _⟩ (by simp [sizeLine]; omega) fun ol' hol' => ?_
      refine ⟨by simp, ?_⟩
      refine HT.le (D' := (pt, o6) :: (pl, ol') :: (wl, ow) :: (cl, oc) :: (((bt, tupOf [VN n5 t5, VN n6 t6]) :: T) ++ E)) ?_ (Le.pick (.tail .head) (Le.pick (.tail .head) (Le.pick (.tail .head) (Le.pick (.tail .head) (Le.refl _)))))
      repeat ktr_units
      exact ⟨(pt, o6) :: (pl, ol') :: (wl, ow) :: (cl, oc) :: ((bt, tupOf [VN n5 t5, VN n6 t6]) :: T), rfl, o6, a6, b6, c6, ol', ps ++ [(n5, n6)], (bt, tupOf [VN n5 t5, VN n6 t6]) :: T, _, _, ho6, ha6, by rw [List.map_append]; exact hol', by simp [hps], rfl, rfl⟩
    · rintro _ _ ⟨op, a, b, c, ol, ps, T, u7, u8, hop, ha, hol, hps, rfl, rfl⟩
      repeat ktr_units
      refine w_law_settled (F := LWx w g L f cd gens os dr) (n := 2 + n1) (words := ws) (picks := ps) ok (by show 0 < 20; omega) (by omega) (by omega) (by k_mem) how hws (by omega) (by k_mem) (hol.mono fun p hp => by k_mem) (by omega) rfl
theorem w_law (ok : (LWx w g L f cd gens os dr).Ok) {sc : Addr} {its : List Value} {zs : List Int} (hl : g.IsList sc its.toArray) (hi : IntsAre its zs) (hz : zs.length ≤ 63) :
    HT (LWx w g L f cd gens os dr) [some (.ref sc), none, none, none, none, none, none, none, none] [] (execs d_law.body (LWx w g L f cd gens os dr).env) fun fl _ _ => fl = .ret (.bool true) := by
  show HT _ _ _ (execs (_ :: _) _) _
  refine execs_cons_ ?_
  refine asgCells_ ok (j := 1) rfl (sliceTo2_ ?_)
  repeat ktr_units
  refine listOld_ (F := LWx w g L f cd gens os dr) ok hl hi (by omega) fun l0 o0 h0 => ?_
  repeat ktr_units
  refine ⟨l0, o0, zs, 40, _, rfl, rfl, .head _, h0, by omega, fun a oa ha => ⟨a, oa, zs.take 40, rfl, rfl, .head _, ha, by simp; omega, fun cl oc cs hcs hcl => ?_⟩⟩
  have hcl : cs.length ≤ 40 := by simp at hcl; omega
  refine HT.le (D' := [(cl, oc)]) ?_ (Le.pick .head Le.nil)
  show HT _ [some _, some _, none, none, none, none, none, none, none] _ _ _
  iterate 18 ktr_units
  refine cw_ ok ?hk ?_
  case hk => exact kp_499 _
  repeat ktr_units
  rename_i pt hpt t2 wl hwl a1 a2 b1 hb1 c1 c2 b2 hb2 d1 d2 b3 hb3 e1 e2 b4 hb4 f1 f2 b5 hb5 pl hpl
  refine w_law_settled (F := LWx w g L f cd gens os dr) (n := 2) (words := []) (picks := [(2, 4), (2, 5), (7, 9), (7, 2), (6, 4)]) ok (by show 0 < 20; omega) (by omega) (by omega) (wl := wl) (pl := pl) (by k_mem) ⟨[], 0, rfl, .nil⟩ (by simp) (by simp) (by k_mem)
    (PVs.nl (.cons ⟨b1, a1, a2, rfl, by k_mem⟩ (.cons ⟨b2, c1, c2, rfl, by k_mem⟩ (.cons ⟨b3, d1, d2, rfl, by k_mem⟩ (.cons ⟨b4, e1, e2, rfl, by k_mem⟩ (.cons ⟨b5, f1, f2, rfl, by k_mem⟩ .nil)))))) (by simp) ?_
  refine HT.le (D' := [(pt, _), (cl, oc)]) ?_ (Le.pick (.tail (.tail (.tail (.tail (.tail (.tail (.tail .head))))))) (Le.pick (.tail (.tail (.tail (.tail (.tail (.tail (.tail .head))))))) Le.nil))
  repeat ktr_units
  refine bite (fun e => by simp at e) fun _ => ?_
  refine execs_nil_ ?_
  exact w_law_b ok hcs (by omega) ⟨_, 0, rfl, .cons (.cons (.cons .nil))⟩ (by omega)
end
-- W27
theorem walk : WalkO view looseN (XL view litV) (Hook.says hook) PySem.Challenge.rw_sj0059_01.row.toRowW ⟨Str.ofString "law", prm (stAt 40), bod (stAt 40), scp (stAt 40), ⟨584, 0, 597, 40⟩⟩ [] fun f vs => PySem.call f vs := by
  intro w s₀ s₁ mg mb G Y fa o pm cd doc dV kV ho hd hcd hD hmg hg args vals as hpre hlay hrd hwl hlo
  have KX := kIn_of Y
  refine Ground.open G ?_
  intro T B D TE TW
  wrow_args hpre hlay hrd hwl hlo
  rename_i zs _ _ _ _ _ _ _ l its _ hL _ _ _ hI _ hz _
  have hz' : zs.length ≤ 63 := by omega
  have he := Dflts.none hD rfl
  subst he
  refine enter_call ?_
  refine call_fullW_ret (by decide) ho hd (Top.nolimit T) hcd (BindsTo.of_eq (binds := [(Str.ofString "script", .ref l)]) rfl) (locs rfl) fun h₁ F => ?_
  have ok : (LWx w s₁.heap s₁.heap.objs.size fa cd s₁.gens s₁.os s₁.drawn).Ok :=
    ⟨KX, ⟨_, _, _, T⟩, below_caller _, Around.frames_deeper rfl, rfl, by kernel_rfl, Nat.le_of_ble_eq_true rfl, Nat.le_of_ble_eq_true rfl, Nat.le_of_ble_eq_true rfl, k_law.nd, k_law.loc⟩
  have hs : St (LWx w s₁.heap s₁.heap.objs.size fa cd s₁.gens s₁.os s₁.drawn) [some (.ref l), none, none, none, none, none, none, none, none] [] { s₁ with heap := h₁, toks := s₁.toks + 1 } := by
    refine ⟨?_, News.nil, List.nodup_nil, rfl, rfl, rfl, rfl⟩
    have e : (fun x => [(Str.ofString "script", Value.ref l)].reverse.lookup x) = lay d_law.xs [some (.ref l), none, none, none, none, none, none, none, none] :=
      lay_binds (ps := [Str.ofString "script"]) (args := [.ref l]) (n := 8) (xs := [Str.ofString "cells", Str.ofString "pot", Str.ofString "n", Str.ofString "words", Str.ofString "i", Str.ofString "picks", Str.ofString "step", Str.ofString "one"]) rfl k_law.nd
    rw [← e]
    exact F
  refine wpAny_mono (w_law ok hL hI hz' _ hs) (fun fl s' ⟨vs', D', h1, e⟩ => ?_) fun _ _ x => x.elim
  subst e
  refine ⟨.inl ⟨_, _, [], rfl, fun _ => rfl, ReadsW.bool true, ?_, fun _ => ⟨List.nodup_nil, fun _ hm => nomatch hm⟩⟩, .of_keep h1.fr.keep, h1.os.1, .of_eq (h1.gens.trans hg)⟩
  wrow_post
end Mine
theorem PySem.Challenge.cw_sj0059_01_holds : PySem.Challenge.rw_sj0059_01.Holds :=
  Mine.head Mine.walk
