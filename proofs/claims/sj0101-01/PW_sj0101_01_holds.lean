import PyProof.Rows.All
import Wide.All
import OpenK.AllK
import Wide.FinOn
import KE.KDictAnyGet
import KE.LcTurns
import KE.KDictObj
import KE.LcSums
import KE.KLcTest
import KE.KSorted
import KE.KCat
import KE.KEqSeq
import Lean
import PySem.Challenge.RW_sj0101_01
open PySem PySem.W PySem.Calls PyProof.Rows
set_option Elab.async false
set_option linter.all false
set_option maxRecDepth 100000
set_option maxHeartbeats 8000000
namespace Mine
theorem aT0 (h : True := by k_is) : True := trivial
theorem aT1 (h : True := by rfl) : True := trivial
theorem aT2 (h : True := by decide) : True := trivial
theorem aT3 (h : True := by k_dflt rfl) : True := trivial
theorem aT4 (h : True := by k_dflt (with_unfolding_all rfl)) : True := trivial
theorem aT5 (h : True := by k_dflt decide) : True := trivial
theorem aT6 (h : True := by k_dflt k_is) : True := trivial
theorem aT7 (h : True := by k_dflt boot_fast) : True := trivial
theorem aT8 (h : True := by with_unfolding_all rfl) : True := trivial
theorem aT9 (h : True := by k_dflt (intro _; rfl)) : True := trivial
theorem aT10 (h : True := by k_dflt (intro _; with_unfolding_all rfl)) : True := trivial
theorem aT11 (h : True := by exact rfl) : True := trivial
theorem aT12 (h : True := by k_dflt (exact ⟨rfl, rfl⟩)) : True := trivial
theorem aT13 (h : True := by k_dflt (intro _ _; with_unfolding_all rfl)) : True := trivial
noncomputable def hNth : List Stmt → Nat → Stmt
  | s :: _, 0 => s
  | _ :: r, n + 1 => hNth r n
  | [], _ => .Pass ⟨0, 0, 0, 0⟩
noncomputable def hBody : Stmt → List Stmt
  | .ClassDef _ _ _ b .. => b
  | _ => []
noncomputable def hAt (i : Nat) : Stmt := hNth PySem.Challenge.rw_sj0101_01.row.prog.main.body i
noncomputable def hIn (i j : Nat) : Stmt := hNth (hBody (hAt i)) j
noncomputable abbrev hI (i : Int) : Value := .int i 0
noncomputable abbrev hS (x : String) (t : Nat) : Value := .str (Str.ofString x) t
noncomputable abbrev hE (P : Params) (x : String) (t : Nat) (v : Value) : DictEntry := ⟨PyData.keyHash P (Str.ofString x), .str (Str.ofString x) t, v⟩
noncomputable def hFn (s : Stmt) (qual : String) (cl : List (Str × Addr)) (dV kV doc pm cd ct : Value) : Data := match s with
  | .FunctionDef name args body _ _ _ scope _ _ _ => .func { name, qualname := Str.ofString qual, params := args, body := .stmts body, scope, globals := 3, closure := cl, defaults := dV, kwdefaults := kV, doc, pyModule := pm, code := cd, closureTuple := ct }
  | _ => .plain
noncomputable def heapK (P : Params) : Frag := (
  (nat_lit 2, { cls := .none, data := .dict #[hE P "type.__subclasses__.Exception.0" 230 (hI 47), hE P "type.__subclasses__.Exception.n" 231 (hI 1)] 2 }) ::
  (nat_lit 3, { cls := (.type "dict"), data := .dict #[hE P "__name__" 165 (hS "law_sj0101_01" 1143), hE P "__doc__" 166 .none, hE P "__package__" 167 .none, hE P "__loader__" 168 (.builtin "__main__.__loader__#opaque"), hE P "__spec__" 169 .none, hE P "__annotations__" 170 (.ref 6), hE P "__builtins__" 171 (.ref 4), hE P "__file__" 173 (hS "/claim/cut.py" 172), hE P "__cached__" 174 .none, hE P "_wall" 193 (.ref 21), hE P "SmtError" 233 (.ref 47), hE P "SortFault" 256 (.ref 67), hE P "LimitFault" 279 (.ref 86), hE P "gcd_of" 289 (.ref 95), hE P "ratio" 298 (.ref 102), hE P "add" 306 (.ref 109), hE P "mul" 314 (.ref 116), hE P "is_whole" 321 (.ref 123), hE P "BOOL" 325 (.int 0 324), hE P "INT" 327 (.int 1 326), hE P "REAL" 329 (.int 2 328), hE P "MOST_BITS" 333 (.int 65536 332), hE P "Bank" 618 (.ref 336), hE P "BoolBank" 751 (.ref 441), hE P "want_small" 758 (.ref 450), hE P "NumberBank" 872 (.ref 537), hE P "TermBank" 1027 (.ref 656), hE P "ZERO" 1032 (.ref 659), hE P "ONE" 1035 (.ref 660), hE P "RowJudge" 1142 (.ref 733), hE P "_law_scale" 1150 (.ref 744), hE P "_law_numbers" 1156 (.ref 751), hE P "_law_pick" 1166 (.ref 758), hE P "_law_number" 1172 (.ref 763), hE P "_law_sum" 1178 (.ref 768), hE P "_law_times" 1184 (.ref 773), hE P "_law_next" 1197 (.ref 780), hE P "_law_reached" 1203 (.ref 785), hE P "_law_is_short" 1212 (.ref 792), hE P "_law_is_told" 1218 (.ref 797), hE P "law" 1224 (.ref 802)] 41 }) ::
  (nat_lit 94, { cls := (.type "code"), data := .fields #[(hS "gcd_of" 282), (hS "gcd_of" 283), (hS "/claim/cut.py" 284), (hI 22), (hI 2), (hI 0), (hI 0), (hI 3), (.ref 89), (.bool true), (hI 181), (.ref 90), .none, (.ref 91), (.ref 92), (.ref 93), (hI 287), (hI 22), (hS "/claim/cut.py" 288)] }) ::
  (nat_lit 95, { cls := (.type "function"), data := hFn (hAt 6) "gcd_of" [] .none .none .none (hS "minismt.ratios" 280) (.ref 94) .none }) ::
  (nat_lit 101, { cls := (.type "code"), data := .fields #[(hS "ratio" 290), (hS "ratio" 291), (hS "/claim/cut.py" 292), (hI 27), (hI 2), (hI 0), (hI 0), (hI 3), (.ref 96), (.bool true), (hI 181), (.ref 97), .none, (.ref 98), (.ref 99), (.ref 100), (hI 296), (hI 27), (hS "/claim/cut.py" 297)] }) ::
  (nat_lit 102, { cls := (.type "function"), data := hFn (hAt 7) "ratio" [] .none .none .none (hS "minismt.ratios" 280) (.ref 101) .none }) ::
  (nat_lit 108, { cls := (.type "code"), data := .fields #[(hS "add" 299), (hS "add" 300), (hS "/claim/cut.py" 301), (hI 34), (hI 2), (hI 0), (hI 0), (hI 3), (.ref 103), (.bool true), (hI 181), (.ref 104), .none, (.ref 105), (.ref 106), (.ref 107), (hI 304), (hI 34), (hS "/claim/cut.py" 305)] }) ::
  (nat_lit 109, { cls := (.type "function"), data := hFn (hAt 8) "add" [] .none .none .none (hS "minismt.ratios" 280) (.ref 108) .none }) ::
  (nat_lit 115, { cls := (.type "code"), data := .fields #[(hS "mul" 307), (hS "mul" 308), (hS "/claim/cut.py" 309), (hI 38), (hI 2), (hI 0), (hI 0), (hI 3), (.ref 110), (.bool true), (hI 181), (.ref 111), .none, (.ref 112), (.ref 113), (.ref 114), (hI 312), (hI 38), (hS "/claim/cut.py" 313)] }) ::
  (nat_lit 116, { cls := (.type "function"), data := hFn (hAt 9) "mul" [] .none .none .none (hS "minismt.ratios" 280) (.ref 115) .none }) ::
  (nat_lit 122, { cls := (.type "code"), data := .fields #[(hS "is_whole" 315), (hS "is_whole" 316), (hS "/claim/cut.py" 317), (hI 42), (hI 1), (hI 0), (hI 0), (hI 3), (.ref 117), (.bool true), (hI 181), (.ref 118), .none, (.ref 119), (.ref 120), (.ref 121), (hI 319), (hI 42), (hS "/claim/cut.py" 320)] }) ::
  (nat_lit 123, { cls := (.type "function"), data := hFn (hAt 10) "is_whole" [] .none .none .none (hS "minismt.ratios" 280) (.ref 122) .none }) ::
  (nat_lit 136, { cls := (.type "code"), data := .fields #[(hS "__init__" 346), (hS "Bank.__init__" 347), (hS "/claim/cut.py" 348), (hI 51), (hI 1), (hI 0), (hI 0), (hI 3), (.ref 131), (.bool true), (hI 181), (.ref 132), .none, (.ref 133), (.ref 134), (.ref 135), (hI 350), (hI 51), (hS "/claim/cut.py" 351)] }) ::
  (nat_lit 137, { cls := (.type "function"), data := hFn (hIn 16 0) "Bank.__init__" [] .none .none .none (hS "minismt.terms" 322) (.ref 136) .none }) ::
  (nat_lit 164, { cls := (.type "code"), data := .fields #[(hS "is_number_sort" 377), (hS "Bank.is_number_sort" 378), (hS "/claim/cut.py" 379), (hI 75), (hI 2), (hI 0), (hI 0), (hI 3), (.ref 159), (.bool true), (hI 181), (.ref 160), .none, (.ref 161), (.ref 162), (.ref 163), (hI 382), (hI 75), (hS "/claim/cut.py" 383)] }) ::
  (nat_lit 165, { cls := (.type "function"), data := hFn (hIn 16 4) "Bank.is_number_sort" [] .none .none .none (hS "minismt.terms" 322) (.ref 164) .none }) ::
  (nat_lit 178, { cls := (.type "code"), data := .fields #[(hS "declare_fun" 393), (hS "Bank.declare_fun" 394), (hS "/claim/cut.py" 395), (hI 81), (hI 4), (hI 0), (hI 0), (hI 3), (.ref 173), (.bool true), (hI 181), (.ref 174), .none, (.ref 175), (.ref 176), (.ref 177), (hI 400), (hI 81), (hS "/claim/cut.py" 401)] }) ::
  (nat_lit 179, { cls := (.type "function"), data := hFn (hIn 16 6) "Bank.declare_fun" [] .none .none .none (hS "minismt.terms" 322) (.ref 178) .none }) ::
  (nat_lit 192, { cls := (.type "code"), data := .fields #[(hS "fresh_const" 413), (hS "Bank.fresh_const" 414), (hS "/claim/cut.py" 415), (hI 90), (hI 3), (hI 0), (hI 0), (hI 3), (.ref 187), (.bool true), (hI 181), (.ref 188), .none, (.ref 189), (.ref 190), (.ref 191), (hI 419), (hI 90), (hS "/claim/cut.py" 420)] }) ::
  (nat_lit 193, { cls := (.type "function"), data := hFn (hIn 16 8) "Bank.fresh_const" [] .none .none .none (hS "minismt.terms" 322) (.ref 192) .none }) ::
  (nat_lit 227, { cls := (.type "code"), data := .fields #[(hS "op" 453), (hS "Bank.op" 454), (hS "/claim/cut.py" 455), (hI 105), (hI 2), (hI 0), (hI 0), (hI 3), (.ref 222), (.bool true), (hI 181), (.ref 223), .none, (.ref 224), (.ref 225), (.ref 226), (hI 458), (hI 105), (hS "/claim/cut.py" 459)] }) ::
  (nat_lit 228, { cls := (.type "function"), data := hFn (hIn 16 13) "Bank.op" [] .none .none .none (hS "minismt.terms" 322) (.ref 227) .none }) ::
  (nat_lit 234, { cls := (.type "code"), data := .fields #[(hS "args" 461), (hS "Bank.args" 462), (hS "/claim/cut.py" 463), (hI 108), (hI 2), (hI 0), (hI 0), (hI 3), (.ref 229), (.bool true), (hI 181), (.ref 230), .none, (.ref 231), (.ref 232), (.ref 233), (hI 466), (hI 108), (hS "/claim/cut.py" 467)] }) ::
  (nat_lit 235, { cls := (.type "function"), data := hFn (hIn 16 14) "Bank.args" [] .none .none .none (hS "minismt.terms" 322) (.ref 234) .none }) ::
  (nat_lit 241, { cls := (.type "code"), data := .fields #[(hS "sort" 469), (hS "Bank.sort" 470), (hS "/claim/cut.py" 471), (hI 111), (hI 2), (hI 0), (hI 0), (hI 3), (.ref 236), (.bool true), (hI 181), (.ref 237), .none, (.ref 238), (.ref 239), (.ref 240), (hI 474), (hI 111), (hS "/claim/cut.py" 475)] }) ::
  (nat_lit 242, { cls := (.type "function"), data := hFn (hIn 16 15) "Bank.sort" [] .none .none .none (hS "minismt.terms" 322) (.ref 241) .none }) ::
  (nat_lit 248, { cls := (.type "code"), data := .fields #[(hS "data" 477), (hS "Bank.data" 478), (hS "/claim/cut.py" 479), (hI 114), (hI 2), (hI 0), (hI 0), (hI 3), (.ref 243), (.bool true), (hI 181), (.ref 244), .none, (.ref 245), (.ref 246), (.ref 247), (hI 482), (hI 114), (hS "/claim/cut.py" 483)] }) ::
  (nat_lit 249, { cls := (.type "function"), data := hFn (hIn 16 16) "Bank.data" [] .none .none .none (hS "minismt.terms" 322) (.ref 248) .none }) ::
  (nat_lit 262, { cls := (.type "code"), data := .fields #[(hS "size" 493), (hS "Bank.size" 494), (hS "/claim/cut.py" 495), (hI 120), (hI 1), (hI 0), (hI 0), (hI 3), (.ref 257), (.bool true), (hI 181), (.ref 258), .none, (.ref 259), (.ref 260), (.ref 261), (hI 497), (hI 120), (hS "/claim/cut.py" 498)] }) ::
  (nat_lit 263, { cls := (.type "function"), data := hFn (hIn 16 18) "Bank.size" [] .none .none .none (hS "minismt.terms" 322) (.ref 262) .none }) ::
  (nat_lit 269, { cls := (.type "code"), data := .fields #[(hS "make" 500), (hS "Bank.make" 501), (hS "/claim/cut.py" 502), (hI 123), (hI 5), (hI 0), (hI 0), (hI 3), (.ref 264), (.bool true), (hI 181), (.ref 265), .none, (.ref 266), (.ref 267), (.ref 268), (hI 510), (hI 123), (hS "/claim/cut.py" 511)] }) ::
  (nat_lit 270, { cls := (.type "function"), data := hFn (hIn 16 19) "Bank.make" [] .none .none .none (hS "minismt.terms" 322) (.ref 269) .none }) ::
  (nat_lit 290, { cls := (.type "code"), data := .fields #[(hS "want" 532), (hS "Bank.want" 533), (hS "/claim/cut.py" 534), (hI 141), (hI 4), (hI 0), (hI 0), (hI 3), (.ref 285), (.bool true), (hI 181), (.ref 286), .none, (.ref 287), (.ref 288), (.ref 289), (hI 539), (hI 141), (hS "/claim/cut.py" 540)] }) ::
  (nat_lit 291, { cls := (.type "function"), data := hFn (hIn 16 22) "Bank.want" [] .none .none .none (hS "minismt.terms" 322) (.ref 290) .none }) ::
  (nat_lit 297, { cls := (.type "code"), data := .fields #[(hS "want_all" 542), (hS "Bank.want_all" 543), (hS "/claim/cut.py" 544), (hI 145), (hI 4), (hI 0), (hI 0), (hI 3), (.ref 292), (.bool true), (hI 181), (.ref 293), .none, (.ref 294), (.ref 295), (.ref 296), (hI 550), (hI 145), (hS "/claim/cut.py" 551)] }) ::
  (nat_lit 298, { cls := (.type "function"), data := hFn (hIn 16 23) "Bank.want_all" [] .none .none .none (hS "minismt.terms" 322) (.ref 297) .none }) ::
  (nat_lit 335, { cls := (.type "dict"), data := .dict #[hE P "__module__" 341 (hS "minismt.terms" 322), hE P "__firstlineno__" 345 (.int 49 344), hE P "__init__" 352 (.ref 137), hE P "sort_name" 360 (.ref 144), hE P "declare_sort" 368 (.ref 151), hE P "width_of" 376 (.ref 158), hE P "is_number_sort" 384 (.ref 165), hE P "is_free_sort" 392 (.ref 172), hE P "declare_fun" 402 (.ref 179), hE P "fresh_fun" 412 (.ref 186), hE P "fresh_const" 421 (.ref 193), hE P "fun_name" 429 (.ref 200), hE P "fun_arg_sorts" 437 (.ref 207), hE P "fun_result" 445 (.ref 214), hE P "fun_count" 452 (.ref 221), hE P "op" 460 (.ref 228), hE P "args" 468 (.ref 235), hE P "sort" 476 (.ref 242), hE P "data" 484 (.ref 249), hE P "width" 492 (.ref 256), hE P "size" 499 (.ref 263), hE P "make" 512 (.ref 270), hE P "find_made" 523 (.ref 277), hE P "is_value" 531 (.ref 284), hE P "want" 541 (.ref 291), hE P "want_all" 552 (.ref 298), hE P "true_term" 559 (.ref 305), hE P "false_term" 566 (.ref 312), hE P "bool_term" 574 (.ref 319), hE P "parts" 582 (.ref 326), hE P "parts_of_all" 597 (.ref 333), hE P "__static_attributes__" 611 (.ref 334), hE P "__dict__" 613 (.ref 337), hE P "__weakref__" 615 (.ref 338), hE P "__doc__" 616 .none] 4 }) ::
  (nat_lit 336, { cls := (.type "type"), data := .cls { name := Str.ofString "Bank", bases := [(.type "object")], mro := [(.ref 336), (.type "object")], ns := 335, qualname := Str.ofString "Bank", subclasses := [(.ref 441)] }, slots := #[none, none, some (hS "Bank" 334), some (hS "Bank" 342), some (.builtin "object.__new__"), some (.bool true)] }) ::
  (nat_lit 416, { cls := (.type "code"), data := .fields #[(hS "app" 709), (hS "BoolBank.app" 710), (hS "/claim/cut.py" 711), (hI 207), (hI 3), (hI 0), (hI 0), (hI 3), (.ref 411), (.bool true), (hI 181), (.ref 412), .none, (.ref 413), (.ref 414), (.ref 415), (hI 718), (hI 207), (hS "/claim/cut.py" 719)] }) ::
  (nat_lit 417, { cls := (.type "function"), data := hFn (hIn 17 9) "BoolBank.app" [] .none .none .none (hS "minismt.terms" 322) (.ref 416) .none }) ::
  (nat_lit 440, { cls := (.type "dict"), data := .dict #[hE P "__module__" 626 (hS "minismt.terms" 322), hE P "__firstlineno__" 630 (.int 178 629), hE P "not_of" 638 (.ref 354), hE P "and_of" 646 (.ref 361), hE P "or_of" 654 (.ref 368), hE P "xor_of" 663 (.ref 375), hE P "implies_of" 672 (.ref 382), hE P "iff" 681 (.ref 389), hE P "eq" 690 (.ref 396), hE P "distinct" 698 (.ref 403), hE P "ite" 708 (.ref 410), hE P "app" 720 (.ref 417), hE P "folded" 729 (.ref 424), hE P "with_args" 738 (.ref 431), hE P "replaced" 747 (.ref 438), hE P "__static_attributes__" 748 (.ref 439), hE P "__doc__" 749 .none] 2 }) ::
  (nat_lit 441, { cls := (.type "type"), data := .cls { name := Str.ofString "BoolBank", bases := [(.ref 336)], mro := [(.ref 441), (.ref 336), (.type "object")], ns := 440, qualname := Str.ofString "BoolBank", subclasses := [(.ref 537)] }, slots := #[some (.ref 341), none, some (hS "BoolBank" 619), some (hS "BoolBank" 627), some (.builtin "object.__new__"), some (.bool true)] }) ::
  (nat_lit 449, { cls := (.type "code"), data := .fields #[(hS "want_small" 752), (hS "want_small" 753), (hS "/claim/cut.py" 754), (hI 223), (hI 1), (hI 0), (hI 0), (hI 3), (.ref 444), (.bool true), (hI 181), (.ref 445), .none, (.ref 446), (.ref 447), (.ref 448), (hI 756), (hI 223), (hS "/claim/cut.py" 757)] }) ::
  (nat_lit 450, { cls := (.type "function"), data := hFn (hAt 18) "want_small" [] .none .none .none (hS "minismt.terms" 322) (.ref 449) .none }) ::
  (nat_lit 463, { cls := (.type "code"), data := .fields #[(hS "num" 771), (hS "NumberBank.num" 772), (hS "/claim/cut.py" 773), (hI 228), (hI 3), (hI 0), (hI 0), (hI 3), (.ref 458), (.bool true), (hI 181), (.ref 459), .none, (.ref 460), (.ref 461), (.ref 462), (hI 777), (hI 228), (hS "/claim/cut.py" 778)] }) ::
  (nat_lit 464, { cls := (.type "function"), data := hFn (hIn 19 0) "NumberBank.num" [] .none .none .none (hS "minismt.terms" 322) (.ref 463) .none }) ::
  (nat_lit 470, { cls := (.type "code"), data := .fields #[(hS "want_number" 780), (hS "NumberBank.want_number" 781), (hS "/claim/cut.py" 782), (hI 236), (hI 3), (hI 0), (hI 0), (hI 3), (.ref 465), (.bool true), (hI 181), (.ref 466), .none, (.ref 467), (.ref 468), (.ref 469), (hI 786), (hI 236), (hS "/claim/cut.py" 787)] }) ::
  (nat_lit 471, { cls := (.type "function"), data := hFn (hIn 19 1) "NumberBank.want_number" [] .none .none .none (hS "minismt.terms" 322) (.ref 470) .none }) ::
  (nat_lit 477, { cls := (.type "code"), data := .fields #[(hS "plus" 789), (hS "NumberBank.plus" 790), (hS "/claim/cut.py" 791), (hI 240), (hI 2), (hI 0), (hI 0), (hI 3), (.ref 472), (.bool true), (hI 181), (.ref 473), .none, (.ref 474), (.ref 475), (.ref 476), (hI 794), (hI 240), (hS "/claim/cut.py" 795)] }) ::
  (nat_lit 478, { cls := (.type "function"), data := hFn (hIn 19 2) "NumberBank.plus" [] .none .none .none (hS "minismt.terms" 322) (.ref 477) .none }) ::
  (nat_lit 484, { cls := (.type "code"), data := .fields #[(hS "times_num" 797), (hS "NumberBank.times_num" 798), (hS "/claim/cut.py" 799), (hI 247), (hI 3), (hI 0), (hI 0), (hI 3), (.ref 479), (.bool true), (hI 181), (.ref 480), .none, (.ref 481), (.ref 482), (.ref 483), (hI 804), (hI 247), (hS "/claim/cut.py" 805)] }) ::
  (nat_lit 485, { cls := (.type "function"), data := hFn (hIn 19 3) "NumberBank.times_num" [] .none .none .none (hS "minismt.terms" 322) (.ref 484) .none }) ::
  (nat_lit 536, { cls := (.type "dict"), data := .dict #[hE P "__module__" 766 (hS "minismt.terms" 322), hE P "__firstlineno__" 770 (.int 226 769), hE P "num" 779 (.ref 464), hE P "want_number" 788 (.ref 471), hE P "plus" 796 (.ref 478), hE P "times_num" 806 (.ref 485), hE P "times" 815 (.ref 492), hE P "over_num" 824 (.ref 499), hE P "negative" 832 (.ref 506), hE P "minus" 841 (.ref 513), hE P "le" 850 (.ref 520), hE P "lt" 859 (.ref 527), hE P "with_args" 868 (.ref 534), hE P "__static_attributes__" 869 (.ref 535), hE P "__doc__" 870 .none] 2 }) ::
  (nat_lit 537, { cls := (.type "type"), data := .cls { name := Str.ofString "NumberBank", bases := [(.ref 441)], mro := [(.ref 537), (.ref 441), (.ref 336), (.type "object")], ns := 536, qualname := Str.ofString "NumberBank", subclasses := [(.ref 656)] }, slots := #[some (.ref 451), none, some (hS "NumberBank" 759), some (hS "NumberBank" 767), some (.builtin "object.__new__"), some (.bool true)] }) ::
  (nat_lit 543, { cls := (.type "cell"), data := .cell (some (.ref 656)) }) ::
  (nat_lit 554, { cls := (.type "code"), data := .fields #[(hS "__init__" 885), (hS "TermBank.__init__" 886), (hS "/claim/cut.py" 887), (hI 276), (hI 1), (hI 0), (hI 0), (hI 3), (.ref 549), (.bool true), (hI 181), (.ref 550), .none, (.ref 551), (.ref 552), (.ref 553), (hI 890), (hI 276), (hS "/claim/cut.py" 891)] }) ::
  (nat_lit 555, { cls := (.type "function"), data := hFn (hIn 20 0) "TermBank.__init__" [(Str.ofString "__class__", 543)] .none .none .none (hS "minismt.terms" 322) (.ref 554) (.ref 548) }) ::
  (nat_lit 655, { cls := (.type "dict"), data := .dict #[hE P "__module__" 880 (hS "minismt.terms" 322), hE P "__firstlineno__" 884 (.int 274 883), hE P "__init__" 892 (.ref 555), hE P "bv_sort" 900 (.ref 562), hE P "find_bv_sort" 908 (.ref 569), hE P "want_bits" 917 (.ref 576), hE P "bv_num" 926 (.ref 583), hE P "bv_one" 935 (.ref 590), hE P "bv_two" 945 (.ref 597), hE P "concat" 954 (.ref 604), hE P "extract" 964 (.ref 611), hE P "zero_extend" 973 (.ref 618), hE P "sign_extend" 982 (.ref 625), hE P "want_place" 992 (.ref 632), hE P "bit" 1001 (.ref 639), hE P "carry" 1011 (.ref 646), hE P "below" 1021 (.ref 653), hE P "__static_attributes__" 1023 (.ref 654), hE P "__doc__" 1025 .none] 3 }) ::
  (nat_lit 656, { cls := (.type "type"), data := .cls { name := Str.ofString "TermBank", bases := [(.ref 537)], mro := [(.ref 656), (.ref 537), (.ref 441), (.ref 336), (.type "object")], ns := 655, qualname := Str.ofString "TermBank", subclasses := [] }, slots := #[some (.ref 540), none, some (hS "TermBank" 873), some (hS "TermBank" 881), some (.builtin "object.__new__"), some (.bool true)] }) ::
  (nat_lit 659, { cls := (.type "tuple"), data := .seq #[(.int 0 1030), (.int 1 1031)] 0 }) ::
  (nat_lit 660, { cls := (.type "tuple"), data := .seq #[(.int 1 1033), (.int 1 1034)] 0 }) ::
  (nat_lit 673, { cls := (.type "code"), data := .fields #[(hS "__init__" 1048), (hS "RowJudge.__init__" 1049), (hS "/claim/cut.py" 1050), (hI 334), (hI 2), (hI 0), (hI 0), (hI 3), (.ref 668), (.bool true), (hI 181), (.ref 669), .none, (.ref 670), (.ref 671), (.ref 672), (hI 1053), (hI 334), (hS "/claim/cut.py" 1054)] }) ::
  (nat_lit 674, { cls := (.type "function"), data := hFn (hIn 24 0) "RowJudge.__init__" [] .none .none .none (hS "minismt.judges" 1028) (.ref 673) .none }) ::
  (nat_lit 680, { cls := (.type "code"), data := .fields #[(hS "linear" 1056), (hS "RowJudge.linear" 1057), (hS "/claim/cut.py" 1058), (hI 337), (hI 2), (hI 0), (hI 0), (hI 3), (.ref 675), (.bool true), (hI 181), (.ref 676), .none, (.ref 677), (.ref 678), (.ref 679), (hI 1069), (hI 337), (hS "/claim/cut.py" 1070)] }) ::
  (nat_lit 681, { cls := (.type "function"), data := hFn (hIn 24 1) "RowJudge.linear" [] .none .none .none (hS "minismt.judges" 1028) (.ref 680) .none }) ::
  (nat_lit 732, { cls := (.type "dict"), data := .dict #[hE P "__module__" 1043 (hS "minismt.judges" 1028), hE P "__firstlineno__" 1047 (.int 332 1046), hE P "__init__" 1055 (.ref 674), hE P "linear" 1071 (.ref 681), hE P "row_of" 1079 (.ref 688), hE P "normal_row" 1089 (.ref 695), hE P "sum_of" 1098 (.ref 702), hE P "farkas_fault" 1107 (.ref 709), hE P "whole_divisor" 1115 (.ref 716), hE P "divide_fault" 1124 (.ref 723), hE P "cut_fault" 1133 (.ref 730), hE P "__static_attributes__" 1135 (.ref 731), hE P "__dict__" 1137 (.ref 734), hE P "__weakref__" 1139 (.ref 735), hE P "__doc__" 1140 .none] 4 }) ::
  (nat_lit 733, { cls := (.type "type"), data := .cls { name := Str.ofString "RowJudge", bases := [(.type "object")], mro := [(.ref 733), (.type "object")], ns := 732, qualname := Str.ofString "RowJudge", subclasses := [] }, slots := #[none, none, some (hS "RowJudge" 1036), some (hS "RowJudge" 1044), some (.builtin "object.__new__"), some (.bool true)] }) ::
  (nat_lit 743, { cls := (.type "code"), data := .fields #[(hS "_law_scale" 1145), (hS "_law_scale" 1146), (hS "/claim/cut.py" 1147), (hI 375), (hI 0), (hI 0), (hI 0), (hI 3), (.ref 738), (.bool true), (hI 181), (.ref 739), .none, (.ref 740), (.ref 741), (.ref 742), (hI 1148), (hI 375), (hS "/claim/cut.py" 1149)] }) ::
  (nat_lit 744, { cls := (.type "function"), data := hFn (hAt 26) "_law_scale" [] .none .none .none (hS "law_sj0101_01" 1143) (.ref 743) .none }) ::
  (nat_lit 750, { cls := (.type "code"), data := .fields #[(hS "_law_numbers" 1151), (hS "_law_numbers" 1152), (hS "/claim/cut.py" 1153), (hI 377), (hI 0), (hI 0), (hI 0), (hI 3), (.ref 745), (.bool true), (hI 181), (.ref 746), .none, (.ref 747), (.ref 748), (.ref 749), (hI 1154), (hI 377), (hS "/claim/cut.py" 1155)] }) ::
  (nat_lit 751, { cls := (.type "function"), data := hFn (hAt 27) "_law_numbers" [] .none .none .none (hS "law_sj0101_01" 1143) (.ref 750) .none }) ::
  (nat_lit 757, { cls := (.type "code"), data := .fields #[(hS "_law_pick" 1157), (hS "_law_pick" 1158), (hS "/claim/cut.py" 1159), (hI 379), (hI 2), (hI 0), (hI 0), (hI 3), (.ref 752), (.bool true), (hI 181), (.ref 753), .none, (.ref 754), (.ref 755), (.ref 756), (hI 1164), (hI 379), (hS "/claim/cut.py" 1165)] }) ::
  (nat_lit 758, { cls := (.type "function"), data := hFn (hAt 28) "_law_pick" [] .none .none .none (hS "law_sj0101_01" 1143) (.ref 757) .none }) ::
  (nat_lit 762, { cls := (.type "code"), data := .fields #[(hS "_law_number" 1167), (hS "_law_number" 1168), (hS "/claim/cut.py" 1169), (hI 384), (hI 2), (hI 0), (hI 0), (hI 3), (.ref 759), (.bool true), (hI 181), (.ref 760), .none, .none, .none, (.ref 761), (hI 1170), (hI 384), (hS "/claim/cut.py" 1171)] }) ::
  (nat_lit 763, { cls := (.type "function"), data := hFn (hAt 29) "_law_number" [] .none .none .none (hS "law_sj0101_01" 1143) (.ref 762) .none }) ::
  (nat_lit 767, { cls := (.type "code"), data := .fields #[(hS "_law_sum" 1173), (hS "_law_sum" 1174), (hS "/claim/cut.py" 1175), (hI 389), (hI 2), (hI 0), (hI 0), (hI 3), (.ref 764), (.bool true), (hI 181), (.ref 765), .none, .none, .none, (.ref 766), (hI 1176), (hI 389), (hS "/claim/cut.py" 1177)] }) ::
  (nat_lit 768, { cls := (.type "function"), data := hFn (hAt 30) "_law_sum" [] .none .none .none (hS "law_sj0101_01" 1143) (.ref 767) .none }) ::
  (nat_lit 772, { cls := (.type "code"), data := .fields #[(hS "_law_times" 1179), (hS "_law_times" 1180), (hS "/claim/cut.py" 1181), (hI 394), (hI 3), (hI 0), (hI 0), (hI 3), (.ref 769), (.bool true), (hI 181), (.ref 770), .none, .none, .none, (.ref 771), (hI 1182), (hI 394), (hS "/claim/cut.py" 1183)] }) ::
  (nat_lit 773, { cls := (.type "function"), data := hFn (hAt 31) "_law_times" [] .none .none .none (hS "law_sj0101_01" 1143) (.ref 772) .none }) ::
  (nat_lit 779, { cls := (.type "code"), data := .fields #[(hS "_law_next" 1185), (hS "_law_next" 1186), (hS "/claim/cut.py" 1187), (hI 400), (hI 5), (hI 0), (hI 0), (hI 3), (.ref 774), (.bool true), (hI 181), (.ref 775), .none, (.ref 776), (.ref 777), (.ref 778), (hI 1195), (hI 400), (hS "/claim/cut.py" 1196)] }) ::
  (nat_lit 780, { cls := (.type "function"), data := hFn (hAt 32) "_law_next" [] .none .none .none (hS "law_sj0101_01" 1143) (.ref 779) .none }) ::
  (nat_lit 784, { cls := (.type "code"), data := .fields #[(hS "_law_reached" 1198), (hS "_law_reached" 1199), (hS "/claim/cut.py" 1200), (hI 414), (hI 3), (hI 0), (hI 0), (hI 3), (.ref 781), (.bool true), (hI 181), (.ref 782), .none, .none, .none, (.ref 783), (hI 1201), (hI 414), (hS "/claim/cut.py" 1202)] }) ::
  (nat_lit 785, { cls := (.type "function"), data := hFn (hAt 33) "_law_reached" [] .none .none .none (hS "law_sj0101_01" 1143) (.ref 784) .none }) ::
  (nat_lit 791, { cls := (.type "code"), data := .fields #[(hS "_law_is_short" 1204), (hS "_law_is_short" 1205), (hS "/claim/cut.py" 1206), (hI 421), (hI 1), (hI 0), (hI 0), (hI 3), (.ref 786), (.bool true), (hI 181), (.ref 787), .none, (.ref 788), (.ref 789), (.ref 790), (hI 1210), (hI 421), (hS "/claim/cut.py" 1211)] }) ::
  (nat_lit 792, { cls := (.type "function"), data := hFn (hAt 34) "_law_is_short" [] .none .none .none (hS "law_sj0101_01" 1143) (.ref 791) .none }) ::
  (nat_lit 796, { cls := (.type "code"), data := .fields #[(hS "_law_is_told" 1213), (hS "_law_is_told" 1214), (hS "/claim/cut.py" 1215), (hI 426), (hI 3), (hI 0), (hI 0), (hI 3), (.ref 793), (.bool true), (hI 181), (.ref 794), .none, .none, .none, (.ref 795), (hI 1216), (hI 426), (hS "/claim/cut.py" 1217)] }) ::
  (nat_lit 797, { cls := (.type "function"), data := hFn (hAt 35) "_law_is_told" [] .none .none .none (hS "law_sj0101_01" 1143) (.ref 796) .none }) ::
  (nat_lit 801, { cls := (.type "code"), data := .fields #[(hS "law" 1219), (hS "law" 1220), (hS "/claim/cut.py" 1221), (hI 437), (hI 1), (hI 0), (hI 0), (hI 3), (.ref 798), (.bool true), (hI 181), (.ref 799), .none, .none, .none, (.ref 800), (hI 1222), (hI 437), (hS "/claim/cut.py" 1223)] }) ::
  (nat_lit 802, { cls := (.type "function"), data := hFn (hAt 36) "law" [] .none .none .none (hS "law_sj0101_01" 1143) (.ref 801) .none }) :: [] : List (Nat × Obj))
noncomputable def hAs : List Addr := nat_lit 2 :: nat_lit 3 :: nat_lit 94 :: nat_lit 95 :: nat_lit 101 :: nat_lit 102 :: nat_lit 108 :: nat_lit 109 :: nat_lit 115 :: nat_lit 116 :: nat_lit 122 :: nat_lit 123 :: nat_lit 136 :: nat_lit 137 :: nat_lit 164 :: nat_lit 165 :: nat_lit 178 :: nat_lit 179 :: nat_lit 192 :: nat_lit 193 :: nat_lit 227 :: nat_lit 228 :: nat_lit 234 :: nat_lit 235 :: nat_lit 241 :: nat_lit 242 :: nat_lit 248 :: nat_lit 249 :: nat_lit 262 :: nat_lit 263 :: nat_lit 269 :: nat_lit 270 :: nat_lit 290 :: nat_lit 291 :: nat_lit 297 :: nat_lit 298 :: nat_lit 335 :: nat_lit 336 :: nat_lit 416 :: nat_lit 417 :: nat_lit 440 :: nat_lit 441 :: nat_lit 449 :: nat_lit 450 :: nat_lit 463 :: nat_lit 464 :: nat_lit 470 :: nat_lit 471 :: nat_lit 477 :: nat_lit 478 :: nat_lit 484 :: nat_lit 485 :: nat_lit 536 :: nat_lit 537 :: nat_lit 543 :: nat_lit 554 :: nat_lit 555 :: nat_lit 655 :: nat_lit 656 :: nat_lit 659 :: nat_lit 660 :: nat_lit 673 :: nat_lit 674 :: nat_lit 680 :: nat_lit 681 :: nat_lit 732 :: nat_lit 733 :: nat_lit 743 :: nat_lit 744 :: nat_lit 750 :: nat_lit 751 :: nat_lit 757 :: nat_lit 758 :: nat_lit 762 :: nat_lit 763 :: nat_lit 767 :: nat_lit 768 :: nat_lit 772 :: nat_lit 773 :: nat_lit 779 :: nat_lit 780 :: nat_lit 784 :: nat_lit 785 :: nat_lit 791 :: nat_lit 792 :: nat_lit 796 :: nat_lit 797 :: nat_lit 801 :: nat_lit 802 :: []
noncomputable def viewK : Program := { PySem.Challenge.rw_sj0101_01.row.prog with main := { PySem.Challenge.rw_sj0101_01.row.prog.main with body := [hAt 0, hAt 2, hAt 3, hAt 4, hAt 6, hAt 7, hAt 8, hAt 9, hAt 10, hAt 12, hAt 13, hAt 14, hAt 15, hAt 16, hAt 17, hAt 18, hAt 19, hAt 20, hAt 22, hAt 23, hAt 24, hAt 26, hAt 27, hAt 28, hAt 29, hAt 30, hAt 31, hAt 32, hAt 33, hAt 34, hAt 35, hAt 36] } }
theorem hAs_is (P : Params) : hAs = (heapK P).map (·.1) := by kernel_rfl
end Mine

open PySem PySem.W PySem.Calls PyProof.Rows
set_option Elab.async false
set_option maxRecDepth 100000
namespace Mine
noncomputable abbrev PR : Program := PySem.Challenge.rw_sj0101_01.row.prog
noncomputable abbrev LO : List Str := looseW viewK [Str.ofString "MOST_BITS"]
structure Gd (w : World) (mean : ExcName → Option Value) (mg mb : Str → Option Value) (h : Heap) : Prop where
  X : (heapK w.params).In h
  T : Top viewK LO mean mg mb h
noncomputable def Keep (D : List Addr) (h h' : Heap) : Prop := ∀ b o, b ∉ D → h.get? b = some o → h'.get? b = some o
theorem Keep.mono {D D' : List Addr} {h h' : Heap} (a : Keep D h h') (s : ∀ x ∈ D, x ∈ D') : Keep D' h h' := fun x o n e => a x o (fun q => n (s x q)) e
theorem Gd.keeps {w : World} {mean : ExcName → Option Value} {mg mb : Str → Option Value} {h h' : Heap} (G : Gd w mean mg mb h) (k : ∀ b o, h.get? b = some o → h'.get? b = some o) : Gd w mean mg mb h' :=
  ⟨G.X.keeps k, G.T.keeps k⟩
noncomputable abbrev AR (dp un : Nat) (fr : Option (List Env)) (gd : Option (List Code)) : Around := { handled := none, depth := dp, frames := fr, guards := gd, units := un }
structure Room (dp un n : Nat) : Prop where
  dp : dp + n < recursionLimit
  un : un + 20 * n < cLine
theorem hide_keep {h : Heap} {D : List (Addr × Obj)} {L : Addr} {h' : Heap} {m : Str → Option Value} (F : Fr (hideAll h (D.map (·.1))) L h' m) : Keep (D.map (·.1)) h h' :=
  fun b o n e => F.keep b o (hideAll_get _ e n)
section
variable {w : World} {mean : ExcName → Option Value} {mg mb : Str → Option Value} {A : Around} {s : Shared} {E : Value → Shared → Prop} {Q : Value → Shared → Prop}
  {name qual : Str} {params : Arguments} {body : List Stmt} {scope : Scope} {dV kV doc pm cdv ct oc : Value} {an od : Option Addr} {osl : Array (Option Value)} {f : Addr} {args : Args}
  {hb : Heap} {D : List (Addr × Obj)}
theorem call_P {pos : List Value} {kw : List (Str × Value)} (D : List (Addr × Obj)) (binds : List (Str × Value)) (R : A.depth < recursionLimit) (G : Gd w mean mg mb hb) (kp : ∀ b o, hb.get? b = some o → s.heap.get? b = some o)
    (N : ∀ p ∈ D, s.heap.get? p.1 = some p.2 ∧ hb.get? p.1 = none)
    (h : ∀ g L' h₁, (∀ h' L'' m, Fr g L'' h' m → Keep (D.map (·.1)) s.heap h') → (∀ b o, b ∉ D.map (·.1) → s.heap.get? b = some o → g.get? b = some o) → (∀ b o, hb.get? b = some o → g.get? b = some o) →
      Fr g L' h₁ (fun y => binds.reverse.lookup y) → News g L' h₁ D → (heapK w.params).In g → Top viewK LO mean mg mb g → (∀ p ∈ D, p.1 < L') →
      wpAny (model PySem.Challenge.rw_sj0101_01.row.prog w) (A.deeper (envOf qual scope L' f cdv)) (execs body (envOf qual scope L' f cdv)) (fun fl s' => Q (match fl with | .ret v => v | _ => .none) s') (fun _ _ => False)
        { s with heap := h₁, toks := s.toks + binds.length })
    (ho : autoParam ((heapK w.params).lookup f = some ⟨oc, od, .func (fnOf name qual params body scope dV kV doc pm an cdv ct), osl⟩) Mine.aT0._auto_1) (hcd : autoParam (codeIn (heapK w.params) cdv qual = true) Mine.aT0._auto_1)
    (hbind : BindsTo s (fnOf name qual params body scope dV kV doc pm an cdv ct) ⟨pos, kw⟩ binds := by exact BindsTo.of_eq rfl) (hloc : ∀ y ∈ binds, scope.names.lookup y.1 = some .local := by exact locs rfl)
    (hco : autoParam (scope.isCoroutine = false) Mine.aT1._auto_1) (hgen : autoParam (scope.isGenerator = false) Mine.aT1._auto_1) (hk : autoParam (scope.kind = .function) Mine.aT1._auto_1)
    (hcell : autoParam (∀ x ∈ scope.names, x.2 ≠ .cell) Mine.aT2._auto_1) : wpAny (model PySem.Challenge.rw_sj0101_01.row.prog w) A (call (.ref f) pos kw) Q E s := by
  have nm : ∀ b o, hb.get? b = some o → b ∉ D.map (·.1) := fun b o e q => by
    obtain ⟨p, hp, rfl⟩ := List.mem_map.mp q
    rw [(N p hp).2] at e; cases e
  have st : ∀ b o, hb.get? b = some o → (hideAll s.heap (D.map (·.1))).get? b = some o := fun b o e => hideAll_get _ (kp b o e) (nm b o e)
  have G' := G.keeps st
  have Gs := G.keeps kp
  refine wpAny_call (codeAny_call_def (fd := fnOf name qual params body scope dV kV doc pm an cdv ct) (body := body) (binds := binds) R (Gs.X _ _ ho) rfl Gs.T.nolimit (codeRec_of Gs.X hcd) rfl hbind hcell hloc (fun h₁ hns hk₁ => ?_) hco hgen hk)
  refine wpAny_mono (h (hideAll s.heap (D.map (·.1))) s.heap.objs.size h₁ (fun h' L'' m F => hide_keep F) (fun b o n e => hideAll_get _ e n) st
    ⟨hns, fun b o e => hk₁ b o (of_hideAll _ e), Nat.le_of_eq (hideAll_size _ _)⟩
    (fun p hp => ⟨hk₁ _ _ (N p hp).1, Nat.ne_of_lt (Heap.lt_size (N p hp).1), hideAll_none _ (List.mem_map_of_mem hp)⟩) G'.X G'.T (fun p hp => Heap.lt_size (N p hp).1)) (fun fl s' hl => hl) fun _ _ y => y.elim
end
noncomputable def put1 (a : Str) (va : Value) (u : Str → Option Value) : Str → Option Value := fun y => if y = a then some va else u y
noncomputable abbrev lsO (its : Array Value) (n : Nat) : Obj := { cls := .type "list", data := .seq its n }
noncomputable abbrev tupO (vs : List Value) : Obj := { cls := .type "tuple", data := .seq vs.toArray }
theorem fr_after0 {g h h' : Heap} {L : Addr} {m : Str → Option Value} (F : Fr g L h m) (hk : Keep [] h h') : Fr g L h' m := by
  obtain ⟨oL, es, ep, hL, r⟩ := F.ns
  exact ⟨⟨oL, es, ep, hk _ _ (List.not_mem_nil) hL, r⟩, fun b o e => hk _ _ (List.not_mem_nil) (F.keep b o e), F.above⟩
theorem news_after0 {g h h' : Heap} {L : Addr} {news : List (Addr × Obj)} (N : News g L h news) (hk : Keep [] h h') : News g L h' news :=
  fun p hp => ⟨hk _ _ (List.not_mem_nil) (N p hp).1, (N p hp).2⟩
theorem news_more {g h h' : Heap} {L c : Addr} {m : Str → Option Value} {o : Obj} {news : List (Addr × Obj)} (F : Fr g L h m) (N : News g L h news) (hk : Keep [] h h') (hn : h.get? c = none) (hc : h'.get? c = some o) : News g L h' ((c, o) :: news) := by
  intro p hp
  rcases List.mem_cons.mp hp with rfl | hp
  · refine ⟨hc, ?_, ?_⟩
    · rintro rfl
      obtain ⟨oL, es, ep, hL, r⟩ := F.ns
      rw [hn] at hL; cases hL
    · cases q : g.get? c with
      | none => rfl
      | some o' => have := F.keep _ _ q; rw [hn] at this; cases this
  · exact (news_after0 N hk) p hp
theorem Keep.all {D : List (Addr × Obj)} {g h h' : Heap} {L : Addr} {news : List (Addr × Obj)} (hk : Keep (D.map (·.1)) h h') (h1 : ∀ p ∈ D, h.get? p.1 = some p.2) (N : News g L h' news) (h2 : ∀ p ∈ D, p ∈ news) : Keep [] h h' := by
  intro b o _ e
  by_cases q : b ∈ D.map (·.1)
  · obtain ⟨p, hp, rfl⟩ := List.mem_map.mp q
    rw [h1 p hp] at e
    cases e
    exact (N p (h2 p hp)).1
  · exact hk b o q e
theorem Keep.less {D : List (Addr × Obj)} {D' : List Addr} {h h' : Heap} (k : Keep (D.map (·.1)) h h') (h1 : ∀ p ∈ D, h.get? p.1 = some p.2) (h2 : ∀ p ∈ D, p.1 ∈ D' ∨ h'.get? p.1 = some p.2) : Keep D' h h' := by
  intro b o n e
  by_cases q : b ∈ D.map (·.1)
  · obtain ⟨p, hp, rfl⟩ := List.mem_map.mp q
    rw [h1 p hp] at e
    cases e
    exact (h2 p hp).resolve_left n
  · exact k b o q e
theorem fresh_of {D : List Addr} {s g h : Heap} {L c : Addr} {o : Obj} {news : List (Addr × Obj)} (gs : ∀ b o, b ∉ D → s.get? b = some o → g.get? b = some o) (N : News g L h news) (hm : (c, o) ∈ news) (hD : c ∉ D) : s.get? c = none := by
  cases q : s.get? c with
  | none => rfl
  | some o' => have := gs _ _ hD q; rw [(N _ hm).2.2] at this; cases this
theorem tup_at {g h : Heap} {a : Addr} {l : List Value} (k : ∀ b o, g.get? b = some o → h.get? b = some o) (e : g.get? a = some (tupO l)) : IsTup h a l.toArray := ⟨_, k _ _ e, rfl, _, rfl⟩
theorem log2_lt_of {n k : Nat} (h : n < 2 ^ k) (hk : 0 < k) : n.log2 < k := by
  by_cases h0 : n = 0
  · subst h0; simpa using hk
  · exact (Nat.log2_lt h0).mpr h
theorem mulOk {a b : Int} {k : Nat} (ha : a.natAbs < 2 ^ k) (hb : b.natAbs < 2 ^ k) (hk : k < 2 ^ 26) (h0 : 0 < k) : IntMulOk a b := by
  have e : ∀ x : Int, x.natAbs < 2 ^ k → Builtin.Int.intBits x ≤ k := by
    intro x hx
    unfold Builtin.Int.intBits
    split
    · exact Nat.zero_le _
    · have := log2_lt_of hx h0; lia
  unfold IntMulOk
  have h1 := e a ha
  have h2 := e b hb
  have : Builtin.Int.intTooBig (Builtin.Int.intBits a + Builtin.Int.intBits b) = false := by
    unfold Builtin.Int.intTooBig
    rw [decide_eq_false]
    have : bitsLine = 2 ^ 27 := rfl
    rw [this]
    lia
  rw [this]
  simp
end Mine

open PySem PySem.W PySem.Calls PyProof.Rows
set_option Elab.async false
set_option linter.all false
set_option maxRecDepth 100000
set_option maxHeartbeats 40000000
namespace Mine
section
variable {prog : Program} {w : World} {A : Around} {E : Value → Shared → Prop} {s : Shared} {env : Env} {h₀ : Heap} {x : Str} {body : List Stmt} {Q : Flow → Shared → Prop}
noncomputable def TurnJ (h₀ : Heap) (L : Addr) (own : List (Addr × Obj)) (J : (Str → Option Value) → List (Addr × Obj) → Prop) (s₁ : Shared) (Q : Flow → Shared → Prop) (f : Flow) (s₂ : Shared) : Prop :=
  match f with
  | .ret v => Q (.ret v) s₂
  | .brk => Q .next s₂
  | _ => ∃ h' tk m' news', s₂ = { s₁ with heap := h', toks := tk } ∧ Fr h₀ L h' m' ∧ News h₀ L h' (own ++ news') ∧ OwnOff own (news'.map (·.1)) ∧ J m' news'
theorem news_sub {g h : Heap} {L : Addr} {l l' : List (Addr × Obj)} (N : News g L h l) (hs : ∀ p ∈ l', p ∈ l) : News g L h l' := fun p hp => N p (hs p hp)
theorem loopJO {fp : List Addr} {n : Nat} {P : Nat → Value → Prop} {St : Nat → Heap → Prop} {oI : Obj} {m : Str → Option Value} {news : List (Addr × Obj)} {Ow : List (Addr × Obj) → Prop}
    (W : Walks prog w A s.heap.objs.size fp [s.heap.objs.size] n P St) (st : St 0 (s.heap.push oI)) (live : ∀ i h, St i h → ∀ b ∈ fp, ∃ o, h.get? b = some o) (hL : env.locals ∉ fp) (hnew : ∀ q ∈ news, q.1 ∉ fp)
    (how : ∀ i h own, St (i + 1) h → (∀ p ∈ own, p.1 ∈ fp) → (∀ p ∈ own, h.get? p.1 = some p.2) → Ow own)
    (F : Fr h₀ env.locals s.heap m) (N : News h₀ env.locals s.heap news) (J : Nat → (Str → Option Value) → List (Addr × Obj) → Prop) (h0 : J 0 m news)
    (turn : ∀ i v m₁ news₁ h tk own, i < n → P i v → J i m₁ news₁ → Ow own → OwnOff own (news₁.map (·.1)) → Fr h₀ env.locals h (fun y => if y = x then some v else m₁ y) → News h₀ env.locals h (news₁ ++ own) →
      wpAny (model prog w) A (execs body env) (TurnJ h₀ env.locals own (J (i + 1)) { s with heap := h, toks := tk } Q) E { s with heap := h, toks := tk })
    (done : ∀ m₁ news₁ h tk, J n m₁ news₁ → Fr h₀ env.locals h m₁ → News h₀ env.locals h news₁ → Q .next { s with heap := h, toks := tk }) :
    LoopAtV prog w A h₀ env x body Q E (.ref s.heap.objs.size) { s with heap := s.heap.push oI } := by
  refine ⟨s.heap.objs.size, fp, [s.heap.objs.size], n, P, St, m, news, fun i m nx => J i m nx ∧ ∀ q ∈ nx, q.1 ∉ fp, rfl, W, hL, ?_, ?_, st, F.push _, (fun p hp => ⟨Heap.get?_push_of_some _ (N p hp).1, (N p hp).2⟩), ⟨h0, hnew⟩, ?_, fun h' tk m' news' F' N' _ hJ => done m' news' h' tk hJ.1 F' N'⟩
  · intro b hb
    rw [List.mem_singleton.mp hb]
    exact next_is_new F
  · intro p hp hI
    exact absurd (Heap.lt_size (N p hp).1) ((List.mem_singleton.mp hI) ▸ Nat.lt_irrefl _)
  · rintro i v m₁ news₁ s₁ own ⟨hh', tk', rfl⟩ hin hP ⟨hJ, hfp⟩ hoff hown hget hall hst' F₁ N₁
    have sep : OwnOff own (news₁.map (·.1)) := by
      intro p hp b hb e
      obtain ⟨q, hq, rfl⟩ := List.mem_map.mp hb
      exact hfp q hq (e ▸ hown p hp)
    have N₂ : News h₀ env.locals hh' (news₁ ++ own) := news_sub N₁ fun p hp => (List.mem_append.mp hp).elim (fun h => List.mem_append_right _ h) fun h => List.mem_append_left _ h
    have fin : ∀ s₂ : Shared, (∃ h' tk m' news', s₂ = { s with heap := h', toks := tk } ∧ Fr h₀ env.locals h' m' ∧ News h₀ env.locals h' (own ++ news') ∧ OwnOff own (news'.map (·.1)) ∧ J (i + 1) m' news') →
        LoopStepU h₀ env.locals [s.heap.objs.size] own (fun m nx => J (i + 1) m nx ∧ ∀ q ∈ nx, q.1 ∉ fp) { s with heap := hh', toks := tk' } .next s₂ := by
      rintro s₂ ⟨h', tk, m', news', rfl, F', N', O', J'⟩
      have nf : ∀ q ∈ news', q.1 ∉ fp := fun q hq hf => by
        obtain ⟨o, ho⟩ := live _ _ hst' _ hf
        have := hall _ hf (N' q (List.mem_append_right _ hq)).2.2 o ho
        exact O' _ this q.1 (List.mem_map_of_mem hq) rfl
      exact ⟨rfl, h', tk, m', news', rfl, F', N', fun p hp hm => nf p hp (W.sub _ hm), J', nf⟩
    refine wpAny_mono (turn i v m₁ news₁ hh' tk' own hin hP hJ (how i _ own hst' hown hget) sep F₁ N₂) (fun f s₂ h₂ => ?_) fun _ _ e => e
    cases f with
    | ret v => exact h₂
    | brk => exact h₂
    | next => exact .next (fin s₂ h₂)
    | cont => exact .cont (fin s₂ h₂)
theorem loopJ {fp : List Addr} {n : Nat} {P : Nat → Value → Prop} {St : Nat → Heap → Prop} {oI : Obj} {m : Str → Option Value} {news : List (Addr × Obj)}
    (W : Walks prog w A s.heap.objs.size fp [s.heap.objs.size] n P St) (st : St 0 (s.heap.push oI)) (live : ∀ i h, St i h → ∀ b ∈ fp, ∃ o, h.get? b = some o) (hfp : ∀ b ∈ fp, b = s.heap.objs.size ∨ ∃ o, h₀.get? b = some o)
    (F : Fr h₀ env.locals s.heap m) (N : News h₀ env.locals s.heap news) (J : Nat → (Str → Option Value) → List (Addr × Obj) → Prop) (h0 : J 0 m news)
    (turn : ∀ i v m₁ news₁ h tk own, i < n → P i v → J i m₁ news₁ → OwnOff own (news₁.map (·.1)) → Fr h₀ env.locals h (fun y => if y = x then some v else m₁ y) → News h₀ env.locals h (news₁ ++ own) →
      wpAny (model prog w) A (execs body env) (TurnJ h₀ env.locals own (J (i + 1)) { s with heap := h, toks := tk } Q) E { s with heap := h, toks := tk })
    (done : ∀ m₁ news₁ h tk, J n m₁ news₁ → Fr h₀ env.locals h m₁ → News h₀ env.locals h news₁ → Q .next { s with heap := h, toks := tk }) :
    LoopAtV prog w A h₀ env x body Q E (.ref s.heap.objs.size) { s with heap := s.heap.push oI } :=
  loopJO (Ow := fun _ => True) W st live
    (fun hm => (hfp _ hm).elim (fun e => absurd F.ns.lt (e ▸ Nat.lt_irrefl _)) fun ⟨_, e⟩ => absurd (Heap.lt_size e) (Nat.not_lt.mpr F.above))
    (fun q hq hm => (hfp _ hm).elim (fun e => absurd (Heap.lt_size (N q hq).1) (e ▸ Nat.lt_irrefl _)) fun ⟨_, e⟩ => by rw [(N q hq).2.2] at e; cases e)
    (fun _ _ _ _ _ _ => trivial) F N J h0 (fun i v m₁ news₁ h tk own hi hv hJ _ ho => turn i v m₁ news₁ h tk own hi hv hJ ho) done
theorem live2 {a b : Addr} {h : Heap} (h1 : ∃ o, h.get? a = some o) (h2 : ∃ o, h.get? b = some o) : ∀ x ∈ [a, b], ∃ o, h.get? x = some o := List.forall_mem_cons.mpr ⟨h1, List.forall_mem_cons.mpr ⟨h2, List.forall_mem_nil _⟩⟩
theorem fp2 {a b : Addr} {g : Heap} {o : Obj} (h2 : g.get? b = some o) : ∀ x ∈ [a, b], x = a ∨ ∃ o, g.get? x = some o := List.forall_mem_cons.mpr ⟨.inl rfl, List.forall_mem_cons.mpr ⟨.inr ⟨_, h2⟩, List.forall_mem_nil _⟩⟩
theorem tupleJ {l : Addr} {items : Array Value} {m : Str → Option Value} {news : List (Addr × Obj)} (hh : A.handled = none) (hl : IsTup h₀ l items)
    (F : Fr h₀ env.locals s.heap m) (N : News h₀ env.locals s.heap news) (J : Nat → (Str → Option Value) → List (Addr × Obj) → Prop) (h0 : J 0 m news)
    (turn : ∀ i v m₁ news₁ h tk own, i < items.size → items[i]? = some v → J i m₁ news₁ → OwnOff own (news₁.map (·.1)) → Fr h₀ env.locals h (fun y => if y = x then some v else m₁ y) → News h₀ env.locals h (news₁ ++ own) →
      wpAny (model prog w) A (execs body env) (TurnJ h₀ env.locals own (J (i + 1)) { s with heap := h, toks := tk } Q) E { s with heap := h, toks := tk })
    (done : ∀ m₁ news₁ h tk, J items.size m₁ news₁ → Fr h₀ env.locals h m₁ → News h₀ env.locals h news₁ → Q .next { s with heap := h, toks := tk }) :
    wpAny (model prog w) A (pyIter (.ref l)) (fun it s₂ => LoopAtV prog w A h₀ env x body Q E it s₂) E s := by
  have ht : s.heap.IsTuple l items := Heap.IsTuple.at hl fun o e => F.keep l o e
  obtain ⟨ol, hol, _⟩ := id hl
  have hne : l ≠ s.heap.objs.size := Nat.ne_of_lt (Heap.lt_size (F.keep _ _ hol))
  refine wpAny_pyIter_tuple ht ?_
  refine loopJ (Walks.tuple hh _ l hne items) ⟨⟨_, Heap.get?_push_size _ rfl, rfl, rfl⟩, ht.at fun o e => Heap.get?_push_of_some _ e⟩ (fun i h ⟨⟨o, e, _⟩, q⟩ => live2 ⟨o, e⟩ (by first | exact ⟨_, q.choose_spec.1⟩ | exact ⟨_, q.choose_spec.choose_spec.1⟩)) (fp2 hol) F N J h0 turn done
theorem listJ {l : Addr} {items : Array Value} {m : Str → Option Value} {news : List (Addr × Obj)} (hh : A.handled = none) (hl : h₀.IsList l items)
    (F : Fr h₀ env.locals s.heap m) (N : News h₀ env.locals s.heap news) (J : Nat → (Str → Option Value) → List (Addr × Obj) → Prop) (h0 : J 0 m news)
    (turn : ∀ i v m₁ news₁ h tk own, i < items.size → items[i]? = some v → J i m₁ news₁ → OwnOff own (news₁.map (·.1)) → Fr h₀ env.locals h (fun y => if y = x then some v else m₁ y) → News h₀ env.locals h (news₁ ++ own) →
      wpAny (model prog w) A (execs body env) (TurnJ h₀ env.locals own (J (i + 1)) { s with heap := h, toks := tk } Q) E { s with heap := h, toks := tk })
    (done : ∀ m₁ news₁ h tk, J items.size m₁ news₁ → Fr h₀ env.locals h m₁ → News h₀ env.locals h news₁ → Q .next { s with heap := h, toks := tk }) :
    wpAny (model prog w) A (pyIter (.ref l)) (fun it s₂ => LoopAtV prog w A h₀ env x body Q E it s₂) E s := by
  have ht : s.heap.IsList l items := hl.at fun o e => F.keep l o e
  obtain ⟨ol, hol, _⟩ := id hl
  have hne : l ≠ s.heap.objs.size := Nat.ne_of_lt (Heap.lt_size (F.keep _ _ hol))
  refine wpAny_pyIter_list ht ?_
  refine loopJ (Walks.list hh _ l hne items) ⟨⟨_, Heap.get?_push_size _ rfl, rfl, rfl⟩, ht.at fun o e => Heap.get?_push_of_some _ e⟩ (fun i h ⟨⟨o, e, _⟩, q⟩ => live2 ⟨o, e⟩ (by first | exact ⟨_, q.choose_spec.1⟩ | exact ⟨_, q.choose_spec.choose_spec.1⟩)) (fp2 hol) F N J h0 turn done
theorem keysJ {K : Type} [DecidableEq K] {knd : KeyKind prog w K} {d : Addr} {kvs : List (K × Value)} {m : Str → Option Value} {news : List (Addr × Obj)} (hh : A.handled = none) (lo : (d == sysModules) = false) (hd : h₀.DictOf knd d kvs)
    (F : Fr h₀ env.locals s.heap m) (N : News h₀ env.locals s.heap news) (J : Nat → (Str → Option Value) → List (Addr × Obj) → Prop) (h0 : J 0 m news)
    (turn : ∀ i v m₁ news₁ h tk own, i < kvs.length → (∃ k x, kvs[i]? = some (k, x) ∧ knd.is k v = true) → J i m₁ news₁ → OwnOff own (news₁.map (·.1)) → Fr h₀ env.locals h (fun y => if y = x then some v else m₁ y) → News h₀ env.locals h (news₁ ++ own) →
      wpAny (model prog w) A (execs body env) (TurnJ h₀ env.locals own (J (i + 1)) { s with heap := h, toks := tk } Q) E { s with heap := h, toks := tk })
    (done : ∀ m₁ news₁ h tk, J kvs.length m₁ news₁ → Fr h₀ env.locals h m₁ → News h₀ env.locals h news₁ → Q .next { s with heap := h, toks := tk }) :
    wpAny (model prog w) A (pyIter (.ref d)) (fun it s₂ => LoopAtV prog w A h₀ env x body Q E it s₂) E s := by
  obtain ⟨od, hod, hdd⟩ := Heap.dictOf_iff.mp hd
  obtain ⟨ep, hat⟩ := (Heap.dictOf_iff.mpr ⟨od, F.keep _ _ hod, hdd⟩ : s.heap.DictOf knd d kvs).dictAt
  have hne : d ≠ s.heap.objs.size := Nat.ne_of_lt hat.lt_size
  refine wpAny_pyIter_dict lo hat ?_
  refine loopJ (Walks.dictKeys (knd := knd) hh _ d hne kvs ep) ⟨⟨_, Heap.get?_push_size _ rfl, rfl, rfl⟩, hat.push _⟩ (fun i h ⟨⟨o, e, _⟩, q⟩ => live2 ⟨o, e⟩ (by first | exact ⟨_, q.choose_spec.1⟩ | exact ⟨_, q.choose_spec.choose_spec.1⟩)) (fp2 hod) F N J h0 turn done
structure IsMaxKey (kvs : List (Int × Value)) (u : Int) : Prop where
  mem : ∃ v, (u, v) ∈ kvs
  max : ∀ p ∈ kvs, p.1 ≤ u
theorem IsMaxKey.ex : ∀ {kvs : List (Int × Value)}, kvs ≠ [] → ∃ u, IsMaxKey kvs u
  | [], h => absurd rfl h
  | [p], _ => ⟨p.1, ⟨p.2, .head _⟩, fun q hq => by rw [List.mem_singleton.mp hq]; exact Int.le_refl _⟩
  | p :: q :: r, _ => by
    obtain ⟨u, ⟨v, hm⟩, hx⟩ := IsMaxKey.ex (kvs := q :: r) (by simp)
    by_cases h : u ≤ p.1
    · exact ⟨p.1, ⟨p.2, .head _⟩, fun z hz => by
        rcases List.mem_cons.mp hz with rfl | hz
        · exact Int.le_refl _
        · exact Int.le_trans (hx z hz) h⟩
    · exact ⟨u, ⟨v, .tail _ hm⟩, fun z hz => by
        rcases List.mem_cons.mp hz with rfl | hz
        · lia
        · exact hx z hz⟩
theorem max_dictN {d : Addr} {o : Obj} {kvs : List (Int × Value)} {L : Addr} {m : Str → Option Value} {news : List (Addr × Obj)} {u : Int} {Q : Value → Shared → Prop} (hh : A.handled = none) (F : Fr h₀ L s.heap m) (N : News h₀ L s.heap news) (hp : (d, o) ∈ news) (hd : o.IsDictOf (PySem.intKind prog w) kvs) (lo : (d == sysModules) = false) (hu : IsMaxKey kvs u)
    (h : ∀ h' (t : Tok) tk, Fr h₀ L h' m → News h₀ L h' news → Q (.int u t) { s with heap := h', toks := tk }) :
    wpAny (model prog w) A (call (.builtin "max") [.ref d]) Q E s := by
  obtain ⟨ep, hat⟩ := (kda_dict N hp hd).dictAt
  have hne : d ≠ s.heap.objs.size := Nat.ne_of_lt hat.lt_size
  have hpos : 0 < kvs.length := by
    obtain ⟨v, hv⟩ := hu.mem
    cases kvs with
    | nil => exact nomatch hv
    | cons => simp
  let f : Nat → Int := fun i => (kvs[i]?.map (·.1)).getD 0
  refine call_max_walk (wpAny_pyIter_dict lo hat ?_)
  refine ⟨_, _, _, _, _, _, _, rfl, Walks.dictKeys (A := A.in1) (knd := PySem.intKind prog w) hh _ d hne kvs ep, ⟨⟨_, Heap.get?_push_size _ rfl, rfl, rfl⟩, hat.push _⟩, ?_, hpos, CmpOf.ints_gt f (fun i v hv => ?_), fun v h' tk hP hk => ?_⟩
  · intro b hb
    show b < (s.heap.push _).objs.size
    rw [Heap.size_push]
    simp only [List.mem_cons, List.not_mem_nil, or_false] at hb
    rcases hb with rfl | rfl
    · exact Nat.lt_succ_self _
    · exact Nat.lt_succ_of_lt hat.lt_size
  · obtain ⟨k, x, e, hk⟩ := hv
    obtain ⟨t, rfl⟩ := Value.isInt_shape hk
    exact ⟨t, by simp only [f, e, Option.map_some, Option.getD_some]⟩
  · obtain ⟨k, x, e, hkk⟩ := hP
    obtain ⟨t, rfl⟩ := Value.isInt_shape hkk
    have hlast := argBest_gt f (kvs.length - 1)
    have e1 : f (argBest (fun i j => decide (f i > f j)) (kvs.length - 1)) = k := by simp only [f] at e ⊢; rw [e]; rfl
    have e2 : k = u := by
      have a1 : k ≤ u := hu.max _ (List.mem_of_getElem? e)
      obtain ⟨v, hv⟩ := hu.mem
      obtain ⟨j, hj⟩ := List.mem_iff_getElem?.mp hv
      have hjl := (List.getElem?_eq_some_iff.mp hj).1
      have a2 := hlast.2 j (by lia)
      have e3 : f j = u := by simp only [f, hj, Option.map_some, Option.getD_some]
      rw [e1, e3] at a2
      lia
    subst e2
    have kk : ∀ b o, s.heap.get? b = some o → h'.get? b = some o := fun b o e => by
      refine hk b o (fun hm => ?_) (Heap.get?_push_of_some _ e)
      rw [List.mem_singleton.mp hm] at e
      exact absurd (Heap.lt_size e) (Nat.lt_irrefl _)
    exact h h' t tk (F.grownK kk) (N.grown kk)
end
end Mine

open PySem PySem.W PySem.Calls PyProof.Rows
set_option Elab.async false
set_option linter.all false
set_option maxRecDepth 100000
namespace Mine
set_option genInjectivity false in
set_option genSizeOf false in
structure Cx where
  A : Around
  g : Heap
  L : Addr
  gens : Array GenState
  drawn : Drawn
  os : OsState
noncomputable abbrev Led := List (Addr × Obj)
noncomputable abbrev Mp := List (Str × Value)
noncomputable abbrev Cx.st (c : Cx) (h : Heap) (tk : Nat) : Shared := ⟨h, c.gens, c.drawn, tk, c.os⟩
noncomputable abbrev lk (m : Mp) : Str → Option Value := fun y => m.lookup y
noncomputable def Nd (l : Led) : Prop := l.Pairwise fun p q => p.1 ≠ q.1
structure Own (c : Cx) (l : Led) (m : Mp) (h : Heap) : Prop where
  F : Fr c.g c.L h (lk m)
  N : News c.g c.L h l
  nd : Nd l
noncomputable def noE : Value → Shared → Prop := fun _ _ => False
inductive Post {α : Type} (c : Cx) (P : α → Led → Mp → Prop) (v : α) (s : Shared) : Prop
  | mk (h : Heap) (tk : Nat) (l : Led) (m : Mp) (e : s = c.st h tk) (O : Own c l m h) (p : P v l m) : Post c P v s
noncomputable def J {α : Type} (w : World) (c : Cx) (l : Led) (m : Mp) (t : Sem α) (P : α → Led → Mp → Prop) : Prop :=
  ∀ h tk, Own c l m h → wpAny (model PR w) c.A t (Post c P) noE (c.st h tk)
theorem J.run {α : Type} {w : World} {c : Cx} {l : Led} {m : Mp} {t : Sem α} {P : α → Led → Mp → Prop} {Q : α → Shared → Prop} {E : Value → Shared → Prop} {h : Heap} {tk : Nat} (k : J w c l m t P) (O : Own c l m h)
    (hQ : ∀ v l m h tk, Own c l m h → P v l m → Q v (c.st h tk)) : wpAny (model PR w) c.A t Q E (c.st h tk) :=
  wpAny_mono (k h tk O) (by rintro v s ⟨h', tk', l', m', rfl, O', p⟩; exact hQ _ _ _ _ _ O' p) fun _ _ x => x.elim
theorem J.start {α : Type} {w : World} {c : Cx} {l : Led} {m : Mp} {t : Sem α} {Q : α → Shared → Prop} {E : Value → Shared → Prop} {h : Heap} {tk : Nat} (O : Own c l m h)
    (k : J w c l m t (fun v l m => ∀ h tk, Own c l m h → Q v (c.st h tk))) : wpAny (model PR w) c.A t Q E (c.st h tk) := k.run O fun _ _ _ _ _ O p => p _ _ O
theorem J.mono {α : Type} {w : World} {c : Cx} {l : Led} {m : Mp} {t : Sem α} {P P' : α → Led → Mp → Prop} (k : J w c l m t P) (h : ∀ v l m, P v l m → P' v l m) : J w c l m t P' := fun _ _ O => k.run O fun _ _ _ _ _ O p => ⟨_, _, _, _, rfl, O, h _ _ _ p⟩
inductive EnvX (c : Cx) (env : Env) : Prop
  | mk (cn : Str) (cs : Scope) (a : Addr) (ccd : Value) (cl : List (Str × Addr)) (e : env = envX cn cs c.L a ccd cl) (hk : cs.kind = .function) : EnvX c env
inductive TopX (c : Cx) : Prop
  | mk (mean : ExcName → Option Value) (mg mb : Str → Option Value) (T : Top viewK LO mean mg mb c.g) : TopX c
structure Gc (w : World) (c : Cx) : Prop where
  X : (heapK w.params).In c.g
  T : TopX c
inductive GdX (w : World) (c : Cx) : Prop
  | mk (mean : ExcName → Option Value) (mg mb : Str → Option Value) (g : Gd w mean mg mb c.g) : GdX w c
theorem Gc.gd {w : World} {c : Cx} (G : Gc w c) : GdX w c := let ⟨a, b, d, T⟩ := G.T; ⟨a, b, d, G.X, T⟩
inductive Rm (c : Cx) (n : Nat) : Prop
  | mk (dp un : Nat) (fr : Option (List Env)) (gd : Option (List Code)) (e : c.A = AR dp un fr gd) (r : Room dp un n) : Rm c n
theorem Rm.units {c : Cx} {n : Nat} (R : Rm c n) : c.A.units + 20 * n < cLine := by
  obtain ⟨_, _, _, _, e, r⟩ := R
  rw [e]; exact r.un
section
variable (w : World) (c : Cx) (env : Env) (P : Value → Led → Mp → Prop) (PF : Flow → Led → Mp → Prop) (PB : Bool → Led → Mp → Prop) (PL : List Value → Led → Mp → Prop)
noncomputable abbrev KAssign (x : Str) : Value → Led → Mp → Prop := fun v l m => PF .next l ((x, v) :: m)
noncomputable abbrev KExpr : Value → Led → Mp → Prop := fun _ l m => PF .next l m
noncomputable abbrev KUnit : Unit → Led → Mp → Prop := fun _ l m => PF .next l m
noncomputable abbrev KRet : Value → Led → Mp → Prop := fun v l m => PF (.ret v) l m
noncomputable abbrev KIf (body orelse : List Stmt) : Bool → Led → Mp → Prop := fun b l m => if b = true then J w c l m (execs body env) PF else J w c l m (execs orelse env) PF
noncomputable abbrev KSet3 (v ov : Value) : Value → Led → Mp → Prop := fun iv l m => J w c l m (setItem ov iv v) (KUnit PF)
noncomputable abbrev KSet2 (i : Expr) (v : Value) : Value → Led → Mp → Prop := fun ov l m => J w c l m (eval i env) (KSet3 w c PF v ov)
noncomputable abbrev KSet (o i : Expr) : Value → Led → Mp → Prop := fun v l m => J w c l m (eval o env) (KSet2 w c env PF i v)
noncomputable abbrev KSat2 (attr : Str) (v : Value) : Value → Led → Mp → Prop := fun ov l m => J w c l m (setAttr ov attr v) (KUnit PF)
noncomputable abbrev KSat (o : Expr) (attr : Str) : Value → Led → Mp → Prop := fun v l m => J w c l m (eval o env) (KSat2 w c PF attr v)
noncomputable abbrev KGat (attr : Str) : Value → Led → Mp → Prop := fun o l m => J w c l m (getAttr o attr true) P
noncomputable abbrev KSub2 (value slice : Expr) (o : Value) : Value → Led → Mp → Prop := fun i l m => J w c l m (subscriptTail value slice o i) P
noncomputable abbrev KSub (value slice : Expr) : Value → Led → Mp → Prop := fun o l m => J w c l m (eval slice env) (KSub2 w c P value slice o)
noncomputable abbrev KMet2 (pos : Pos) (args : List Expr) : Value × List Value → Led → Mp → Prop := fun fx l m => J w c l m (callWith pos fx.1 fx.2 (backTo pos (starEach args env)) []) P
noncomputable abbrev KMet (name : Str) (pl : Sem Bool) (pos : Pos) (args : List Expr) : Value → Led → Mp → Prop := fun ov l m => J w c l m (getMethod ov name pl) (KMet2 w c env P pos args)
noncomputable abbrev KCall (pos : Pos) (args : List Expr) : Value → Led → Mp → Prop := fun f l m => J w c l m (callWith pos f [] (backTo pos (starEach args env)) []) P
noncomputable abbrev KArg2 (v : Value) : List Value → Led → Mp → Prop := fun vs l m => PL (v :: vs) l m
noncomputable abbrev KArg (pos : Pos) (rest : List Expr) : Value → Led → Mp → Prop := fun v l m => J w c l m (spliced (backTo pos (starEach rest env))) (KArg2 PL v)
noncomputable abbrev KBin2 (op : Operator) (a : Value) : Value → Led → Mp → Prop := fun b l m => J w c l m (binaryOp op a b) P
noncomputable abbrev KBin (op : Operator) (y : Expr) : Value → Led → Mp → Prop := fun a l m => J w c l m (eval y env) (KBin2 w c P op a)
noncomputable abbrev KUna (op : PySem.UnaryOp) : Value → Led → Mp → Prop := fun a l m => J w c l m (unaryOp op a) P
noncomputable abbrev KTru : Value → Led → Mp → Prop := fun v l m => J w c l m (truthy v) PB
noncomputable abbrev KCmp2 (op : CmpOp) (a : Value) : Value → Led → Mp → Prop := fun b l m => J w c l m (compareOp op a b) P
noncomputable abbrev KCmp (op : CmpOp) (y : Expr) : Value → Led → Mp → Prop := fun a l m => J w c l m (eval y env) (KCmp2 w c P op a)
noncomputable abbrev KNot : Bool → Led → Mp → Prop := fun b l m => PB (!b) l m
noncomputable abbrev KAndT (rest : List Expr) (pos : Pos) (whole : Sem Value) : Bool → Led → Mp → Prop := fun b l m => if b = true then J w c l m (PySem.isTrue (.BoolOp .And rest pos) env whole) PB else PB false l m
noncomputable abbrev KOrT (rest : List Expr) (pos : Pos) (whole : Sem Value) : Bool → Led → Mp → Prop := fun b l m => if b = true then PB true l m else J w c l m (PySem.isTrue (.BoolOp .Or rest pos) env whole) PB
noncomputable abbrev KOrV2 (e : Expr) (v : Value) : Bool → Led → Mp → Prop := fun b l m => if b = true then P v l m else J w c l m (eval e env) P
noncomputable abbrev KOrV (e : Expr) : Value → Led → Mp → Prop := fun v l m => J w c l m (truthy v) (KOrV2 w c env P e v)
noncomputable abbrev KAndV2 (e : Expr) (v : Value) : Bool → Led → Mp → Prop := fun b l m => if b = true then J w c l m (eval e env) P else P v l m
noncomputable abbrev KAndV (e : Expr) : Value → Led → Mp → Prop := fun v l m => J w c l m (truthy v) (KAndV2 w c env P e v)
noncomputable abbrev KIfx (x y : Expr) : Bool → Led → Mp → Prop := fun b l m => if b = true then J w c l m (eval x env) P else J w c l m (eval y env) P
noncomputable abbrev KBi (id : String) (first : List Value) : List Value → Led → Mp → Prop := fun vs l m => J w c l m (PySem.call (.builtin id) (first ++ vs)) P
noncomputable abbrev KFn (f : Addr) (first : List Value) : List Value → Led → Mp → Prop := fun vs l m => J w c l m (PySem.call (.ref f) (first ++ vs)) P
end
structure Ent (c : Cx) (sh hb : Heap) (D : Led) : Prop where
  gs : ∀ b o, b ∉ D.map (·.1) → sh.get? b = some o → c.g.get? b = some o
  gb : ∀ b o, hb.get? b = some o → c.g.get? b = some o
  lt : ∀ p ∈ D, p.1 < c.L
noncomputable def retOf : Flow → Value
  | .ret v => v
  | _ => .none
noncomputable abbrev KFin (c : Cx) (D : Led) (s : Shared) (Q : Value → Shared → Prop) : Flow → Led → Mp → Prop := fun fl l m => ∀ h tk, Own c l m h → Keep (D.map (·.1)) s.heap h → Q (retOf fl) { s with heap := h, toks := tk }
section
variable {w : World} {mean : ExcName → Option Value} {mg mb : Str → Option Value} {dp un : Nat} {fr : Option (List Env)} {gd : Option (List Code)} {s : Shared} {E : Value → Shared → Prop} {Q : Value → Shared → Prop}
  {name qual : Str} {params : Arguments} {body : List Stmt} {scope : Scope} {dV kV doc pm cdv ct oc : Value} {an od : Option Addr} {osl : Array (Option Value)} {f : Addr} {hb : Heap} {n : Nat}
theorem call_J {pos : List Value} (D : Led) (binds : List (Str × Value)) (R : Room dp un (n + 1)) (G : Gd w mean mg mb hb) (kp : ∀ b o, hb.get? b = some o → s.heap.get? b = some o) (hD : ∀ p ∈ D, s.heap.get? p.1 = some p.2 ∧ hb.get? p.1 = none) (nd : Nd D)
    (h : ∀ c : Cx, Gc w c → Rm c n → EnvX c (envOf qual scope c.L f cdv) → Ent c s.heap hb D →
      J w c D binds.reverse (execs body (envOf qual scope c.L f cdv)) (KFin c D s Q))
    (ho : autoParam ((heapK w.params).lookup f = some ⟨oc, od, .func (fnOf name qual params body scope dV kV doc pm an cdv ct), osl⟩) Mine.aT0._auto_1) (hcd : autoParam (codeIn (heapK w.params) cdv qual = true) Mine.aT0._auto_1)
    (hbind : BindsTo s (fnOf name qual params body scope dV kV doc pm an cdv ct) ⟨pos, []⟩ binds := by exact BindsTo.of_eq rfl) (hloc : ∀ y ∈ binds, scope.names.lookup y.1 = some .local := by exact locs rfl)
    (hco : autoParam (scope.isCoroutine = false) Mine.aT1._auto_1) (hgen : autoParam (scope.isGenerator = false) Mine.aT1._auto_1) (hk : autoParam (scope.kind = .function) Mine.aT1._auto_1)
    (hcell : autoParam (∀ x ∈ scope.names, x.2 ≠ .cell) Mine.aT2._auto_1) : wpAny (model PR w) (AR dp un fr gd) (call (.ref f) pos []) Q E s := by
  have rdp := R.dp
  have run := R.un
  refine call_P D binds (by show dp < _; lia) G kp hD ?_ ho hcd hbind hloc hco hgen hk hcell
  intro g L' h₁ hkp gs gb F N X T ll
  refine J.start (c := ⟨(AR dp un fr gd).deeper (envOf qual scope L' f cdv), g, L', s.gens, s.drawn, s.os⟩) ⟨F, N, nd⟩ ?_
  refine (h ⟨(AR dp un fr gd).deeper (envOf qual scope L' f cdv), g, L', s.gens, s.drawn, s.os⟩ ⟨X, _, _, _, T⟩ ⟨dp + 1, un + 3, fr.map (envOf qual scope L' f cdv :: ·), gd, rfl, ⟨by lia, by lia⟩⟩ ⟨_, _, _, _, _, rfl, hk⟩ ⟨gs, gb, ll⟩).mono ?_
  intro fl l m k h tk O
  have := k h tk O (hkp _ _ _ O.F)
  cases fl <;> exact this
end
theorem keep0 {D l : Led} {c : Cx} {m : Mp} {sh hb h : Heap} (hk : Keep (D.map (·.1)) sh h) (hD : ∀ p ∈ D, sh.get? p.1 = some p.2 ∧ hb.get? p.1 = none) (O : Own c l m h) (sub : ∀ p ∈ D, p ∈ l) : Keep [] sh h :=
  Keep.all hk (fun p hp => (hD p hp).1) O.N sub
theorem Own.keep0 {c : Cx} {l : Led} {m : Mp} {h h' : Heap} (O : Own c l m h) (k : Keep [] h h') : Own c l m h' := ⟨fr_after0 O.F k, news_after0 O.N k, O.nd⟩
theorem Nd.cons {p : Addr × Obj} {l : Led} (h : ∀ q ∈ l, q.1 < p.1) (nd : Nd l) : Nd (p :: l) := List.pairwise_cons.mpr ⟨fun q hq e => Nat.lt_irrefl _ (e ▸ h q hq : q.1 < q.1), nd⟩
noncomputable def nth : Led → Nat → Option (Addr × Obj)
  | [], _ => none
  | p :: _, 0 => some p
  | _ :: r, i + 1 => nth r i
theorem nth_mem {p : Addr × Obj} : ∀ {l : Led} {i : Nat}, nth l i = some p → p ∈ l
  | _ :: _, 0, h => by cases h; exact .head _
  | _ :: _, _ + 1, h => .tail _ (nth_mem h)
inductive Up (d : Addr) (o o' : Obj) : Led → Led → Prop
  | head {r} : Up d o o' ((d, o) :: r) ((d, o') :: r)
  | tail {p r r'} : Up d o o' r r' → Up d o o' (p :: r) (p :: r')
theorem Up.mem {d : Addr} {o o' : Obj} : ∀ {l l' : Led}, Up d o o' l l' → (d, o) ∈ l
  | _, _, .head => .head _
  | _, _, .tail u => .tail _ u.mem
theorem Up.upd {d : Addr} {o o' : Obj} : ∀ {l l' : Led}, Nd l → Up d o o' l l' → Upd d o o' l l'
  | _, _, nd, .head => .head fun p hp e => (List.pairwise_cons.mp nd).1 p hp e.symm
  | _, _, nd, .tail u => .tail ((List.pairwise_cons.mp nd).1 _ u.mem) (u.upd (List.pairwise_cons.mp nd).2)
theorem Up.adr {d : Addr} {o o' : Obj} : ∀ {l l' : Led}, Up d o o' l l' → ∀ q ∈ l', ∃ q' ∈ l, q'.1 = q.1
  | _, _, .head, q, hq => by
    rcases List.mem_cons.mp hq with rfl | hq
    · exact ⟨_, .head _, rfl⟩
    · exact ⟨q, .tail _ hq, rfl⟩
  | _, _, .tail u, q, hq => by
    rcases List.mem_cons.mp hq with rfl | hq
    · exact ⟨_, .head _, rfl⟩
    · obtain ⟨q', h1, h2⟩ := u.adr q hq
      exact ⟨q', .tail _ h1, h2⟩
theorem Up.nd {d : Addr} {o o' : Obj} : ∀ {l l' : Led}, Nd l → Up d o o' l l' → Nd l'
  | _, _, nd, .head => List.pairwise_cons.mpr (List.pairwise_cons.mp nd)
  | _, _, nd, .tail u => List.pairwise_cons.mpr ⟨fun q hq => by
      obtain ⟨q', h1, h2⟩ := u.adr q hq
      exact h2 ▸ (List.pairwise_cons.mp nd).1 q' h1, u.nd (List.pairwise_cons.mp nd).2⟩
inductive UpF (d : Addr) (o : Obj) : Led → (Obj → Led) → Prop
  | head {r} : UpF d o ((d, o) :: r) (fun o' => (d, o') :: r)
  | tail {p r g} : UpF d o r g → UpF d o (p :: r) (fun o' => p :: g o')
theorem UpF.up {d : Addr} {o : Obj} : ∀ {l : Led} {g : Obj → Led}, UpF d o l g → ∀ o', Up d o o' l (g o')
  | _, _, .head, _ => .head
  | _, _, .tail u, o' => .tail (u.up o')
theorem UpF.mem {d : Addr} {o : Obj} : ∀ {l : Led} {g : Obj → Led}, UpF d o l g → (d, o) ∈ l
  | _, _, .head => .head _
  | _, _, .tail u => .tail _ u.mem
theorem UpF.upd {d : Addr} {o : Obj} : ∀ {l : Led} {g : Obj → Led}, Nd l → UpF d o l g → UpdF d o l g
  | _, _, nd, .head => .head fun p hp e => (List.pairwise_cons.mp nd).1 p hp e.symm
  | _, _, nd, .tail u => .tail ((List.pairwise_cons.mp nd).1 _ u.mem) (u.upd (List.pairwise_cons.mp nd).2)
theorem lk_put {x : Str} {v : Value} {m : Mp} : (fun y => if y = x then some v else lk m y) = lk ((x, v) :: m) := by
  funext y
  show _ = List.lookup y ((x, v) :: m)
  rw [List.lookup_cons]
  by_cases q : y = x
  · rw [if_pos q, beq_iff_eq.mpr q]
  · rw [if_neg q, beq_eq_false_iff_ne.mpr q]
section
variable {w : World} {c : Cx} {l : Led} {m : Mp} {P : Value → Led → Mp → Prop} {PF : Flow → Led → Mp → Prop} {PB : Bool → Led → Mp → Prop} {PL : List Value → Led → Mp → Prop} {PU : Unit → Led → Mp → Prop} {PM : Value × List Value → Led → Mp → Prop}
  {env : Env}
noncomputable def nxt (w : World) (c : Cx) (rest : List Stmt) (env : Env) (P : Flow → Led → Mp → Prop) : Flow → Led → Mp → Prop := fun fl l m => match fl with
  | .next => J w c l m (execs rest env) P
  | f => P f l m
theorem nxt_next {rest : List Stmt} (k : J w c l m (execs rest env) PF) : nxt w c rest env PF .next l m := k
theorem nxt_ret {rest : List Stmt} {v : Value} (k : PF (.ret v) l m) : nxt w c rest env PF (.ret v) l m := k
theorem J.cons {st : Stmt} {rest : List Stmt} (k : J w c l m (exec st env) (nxt w c rest env PF)) : J w c l m (execs (st :: rest) env) PF := fun h tk O =>
  wpAny_execs_cons (k.run O fun v l' m' h' tk' O' p => by
    cases v <;> first | exact J.run p O' fun _ _ _ _ _ O2 p2 => ⟨_, _, _, _, rfl, O2, p2⟩ | exact ⟨_, _, _, _, rfl, O', p⟩)
theorem J.nil (k : PF .next l m) : J w c l m (execs [] env) PF := fun h tk O => wpAny_execs_nil ⟨_, _, _, _, rfl, O, k⟩
theorem J.assign {x : Str} {p' pos : Pos} {e : Expr} (he : EnvX c env) (k : J w c l m (eval e env) (KAssign PF x))
    (hx : autoParam (env.kindOf x = some .local) Mine.aT3._auto_1) (hs : autoParam (swapsWith e (some (Expr.Name x p')) pos.line env = pure false) Mine.aT3._auto_1) :
    J w c l m (exec (.Assign [.Name x p'] e pos) env) PF := fun h tk O => by
  obtain ⟨cn, cs, a, ccd, cl, rfl, hk⟩ := he
  exact wpAny_Assign_Name (k.run O fun v l m h tk O p => storeX_L O.F O.N (fun h' F' N' => ⟨h', _, l, _, rfl, ⟨lk_put ▸ F', N', O.nd⟩, p⟩) hk hx) hs
theorem J.expr {e : Expr} {pos : Pos} (k : J w c l m (eval e env) (KExpr PF)) (hi : autoParam (interactive env = false) Mine.aT3._auto_1) (hs : autoParam (swapsWith e none pos.line env = pure false) Mine.aT3._auto_1) :
    J w c l m (exec (.Expr e pos) env) PF := fun h tk O => wpAny_Expr_any (k.run O fun v l m h tk O p => ⟨_, _, _, _, rfl, O, p⟩) hi hs
theorem J.ret {e : Expr} {pos : Pos} (k : J w c l m (eval e env) (KRet PF)) : J w c l m (exec (.Return (some e) pos) env) PF := fun h tk O =>
  wpAny_Return_some (k.run O fun v l m h tk O p => ⟨_, _, _, _, rfl, O, p⟩)
theorem J.ifs {test : Expr} {body orelse : List Stmt} {pos : Pos} (k : J w c l m (PySem.isTrue test env (eval test env)) (KIf w c env PF body orelse)) :
    J w c l m (exec (.If test body orelse pos) env) PF := fun h tk O => wpAny_If (k.run O fun v l m h tk O p => by
      split <;> rename_i q
      · replace p := Eq.mp (if_pos q) p; exact p.run O fun _ _ _ _ _ O p => ⟨_, _, _, _, rfl, O, p⟩
      · replace p := Eq.mp (if_neg q) p; exact p.run O fun _ _ _ _ _ O p => ⟨_, _, _, _, rfl, O, p⟩)
theorem J.asub {o i e : Expr} {pos' pos : Pos} (k : J w c l m (eval e env) (KSet w c env PF o i))
    (hs : autoParam (swapsWith e (some (o.Subscript i pos')) pos.line env = pure false) Mine.aT4._auto_1) : J w c l m (exec (.Assign [.Subscript o i pos'] e pos) env) PF := fun h tk O =>
  wpAny_Assign_Subscript (k.run O fun v l m h tk O p => p.run O fun v l m h tk O p => p.run O fun v l m h tk O p => p.run O fun v l m h tk O p => ⟨_, _, _, _, rfl, O, p⟩) hs
theorem J.aattr {o e : Expr} {attr : Str} {pos' pos : Pos} (k : J w c l m (eval e env) (KSat w c env PF o attr))
    (hs : autoParam (swapsWith e (some (o.Attribute attr pos')) pos.line env = pure false) Mine.aT4._auto_1) : J w c l m (exec (.Assign [.Attribute o attr pos'] e pos) env) PF := fun h tk O =>
  plainObj_wpAny_Assign_Attribute (k.run O fun v l m h tk O p => p.run O fun v l m h tk O p => p.run O fun v l m h tk O p => ⟨_, _, _, _, rfl, O, p⟩) hs
theorem J.name {x : Str} {pos : Pos} {v : Value} (he : EnvX c env) (hv : m.lookup x = some v) (k : P v l m)
    (hx : autoParam (env.kindOf x = some .local) Mine.aT3._auto_1) (hd : autoParam ((x == ("__debug__" : Str)) = false) Mine.aT5._auto_1) :
    J w c l m (eval (.Name x pos) env) P := fun h tk O => by
  obtain ⟨cn, cs, a, ccd, cl, rfl, hk⟩ := he
  exact nameX_L O.F hv ⟨_, _, _, _, rfl, O, k⟩ hk hx hd
theorem J.nameB {x : Str} {pos : Pos} {v : Value} (he : EnvX c env) (G : Gc w c) (k : P v l m) (hx : autoParam (env.kindOf x = some .globalImplicit) Mine.aT3._auto_1) (e : autoParam (nsIn (heapK w.params) mainGlobals x = some none) Mine.aT6._auto_1) (hv : autoParam (bootBuiltins x = some v) Mine.aT7._auto_1) (hn : autoParam (x ≠ "__name__") Mine.aT5._auto_1)
    (hd : autoParam ((x == ("__debug__" : Str)) = false) Mine.aT5._auto_1) :
    J w c l m (eval (.Name x pos) env) P := fun h tk O => by
  obtain ⟨cn, cs, a, ccd, cl, rfl, hk⟩ := he
  exact let ⟨_, _, _, T⟩ := G.T; nameX_B O.F G.X (topRead_of T) e hv hn ⟨_, _, _, _, rfl, O, k⟩ hk hx hd
theorem J.nameK {x : Str} {pos : Pos} {v : Value} (he : EnvX c env) (G : Gc w c) (k : P v l m) (hx : autoParam (env.kindOf x = some .globalImplicit) Mine.aT3._auto_1) (e : autoParam (nsIn (heapK w.params) mainGlobals x = some (some v)) Mine.aT6._auto_1)
    (hd : autoParam ((x == ("__debug__" : Str)) = false) Mine.aT5._auto_1) :
    J w c l m (eval (.Name x pos) env) P := fun h tk O => by
  obtain ⟨cn, cs, a, ccd, cl, rfl, hk⟩ := he
  exact let ⟨_, _, _, T⟩ := G.T; nameX_K O.F G.X (topRead_of T) e ⟨_, _, _, _, rfl, O, k⟩ hk hx hd
theorem J.int {i : Int} {n : Nat} {pos : Pos} (k : ∀ t, P (.int i t) l m) : J w c l m (eval (.Constant (.int i) n pos) env) P := fun h tk O => wpAny_Constant_int ⟨_, _, _, _, rfl, O, k _⟩
theorem J.str {x : Str} {n : Nat} {pos : Pos} (k : ∀ t, P (.str x t) l m) : J w c l m (eval (.Constant (.str x) n pos) env) P := fun h tk O => Constant_str ⟨_, _, _, _, rfl, O, k _⟩
theorem J.bool {b : Bool} {n : Nat} {pos : Pos} (k : P (.bool b) l m) : J w c l m (eval (.Constant (.bool b) n pos) env) P := fun h tk O => Constant_bool ⟨_, _, _, _, rfl, O, k⟩
theorem J.attrN {x attr : Str} {xp pos : Pos} (k : J w c l m (eval (.Name x xp) env) (KGat w c P attr)) : J w c l m (eval (.Attribute (.Name x xp) attr pos) env) P := fun h tk O =>
  Attribute_Name_ (k.run O fun v l m h tk O p => p.run O fun v l m h tk O p => ⟨_, _, _, _, rfl, O, p⟩)
theorem J.sub {value slice : Expr} {pos : Pos} (k : J w c l m (eval value env) (KSub w c env P value slice)) : J w c l m (eval (.Subscript value slice pos) env) P := fun h tk O =>
  Subscript_ (k.run O fun v l m h tk O p => p.run O fun v l m h tk O p => p.run O fun v l m h tk O p => ⟨_, _, _, _, rfl, O, p⟩)
theorem J.mcall {o : Expr} {name : Str} {apos pos : Pos} {args : List Expr} {pl : Sem Bool} (k : J w c l m (eval o env) (KMet w c env P name pl pos args))
    (he : eval ((o.Attribute name apos).Call args [] pos) env = (do
          let ov ← eval o env
          standAt apos.atName
          let __x ← holding [ov] (getMethod ov name pl)
          match __x with
            | (f, first) => callWith pos f first (backTo pos (starEach args env)) []) := by k_dflt rfl) : J w c l m (eval (.Call (.Attribute o name apos) args [] pos) env) P := fun h tk O =>
  MethodCall_ (k.run O fun v l m h tk O p => p.run O fun v l m h tk O p => p.run O fun v l m h tk O p => ⟨_, _, _, _, rfl, O, p⟩) he
theorem J.call {func : Expr} {args : List Expr} {pos : Pos} (k : J w c l m (eval func env) (KCall w c env P pos args))
    (he : eval (func.Call args [] pos) env = (do
          let __do_lift ← eval func env
          callWith pos __do_lift [] (backTo pos (starEach args env)) (backToKw pos (keywordEach [] env))) := by k_dflt rfl) : J w c l m (eval (.Call func args [] pos) env) P := fun h tk O =>
  Call_ (k.run O fun v l m h tk O p => p.run O fun v l m h tk O p => ⟨_, _, _, _, rfl, O, p⟩) he
theorem J.arg {e : Expr} {rest : List Expr} {pos : Pos} (k : J w c l m (eval e env) (KArg w c env PL pos rest))
    (hs : autoParam (starEach (e :: rest) env = (false, eval e env) :: starEach rest env) Mine.aT3._auto_1) : J w c l m (spliced (backTo pos (starEach (e :: rest) env))) PL := fun h tk O =>
  args_cons (k.run O fun v l m h tk O p => p.run O fun v l m h tk O p => ⟨_, _, _, _, rfl, O, p⟩) hs
theorem J.arg0 {pos : Pos} (k : PL [] l m) : J w c l m (spliced (backTo pos (starEach [] env))) PL := fun h tk O => args_nil ⟨_, _, _, _, rfl, O, k⟩
noncomputable def NewT (P : Value → Led → Mp → Prop) (vs : List Value) (l : Led) (m : Mp) : Prop := vs.length ≤ sizeLine ∧ ∀ d, AllLt d l → P (.ref d) ((d, tupO vs) :: l) m
noncomputable def NewL (P : Value → Led → Mp → Prop) (vs : List Value) (l : Led) (m : Mp) : Prop := vs.length ≤ sizeLine ∧ ∀ d, AllLt d l → P (.ref d) ((d, lsO vs.toArray 0) :: l) m
theorem NewT.mk {vs : List Value} (z : vs.length ≤ sizeLine) (k : ∀ d, P (.ref d) ((d, tupO vs) :: l) m) : NewT P vs l m := ⟨z, fun d _ => k d⟩
theorem NewL.mk {vs : List Value} (z : vs.length ≤ sizeLine) (k : ∀ d, P (.ref d) ((d, lsO vs.toArray 0) :: l) m) : NewL P vs l m := ⟨z, fun d _ => k d⟩
theorem NewT.mkH {vs : List Value} {a : Nat} {o : Obj} (z : vs.length ≤ sizeLine) (k : ∀ d : Nat, a < d → P (.ref d) ((d, tupO vs) :: (a, o) :: l) m) : NewT P vs ((a, o) :: l) m := ⟨z, fun d h => k d h.1⟩
theorem NewL.mkH {vs : List Value} {a : Nat} {o : Obj} (z : vs.length ≤ sizeLine) (k : ∀ d : Nat, a < d → P (.ref d) ((d, lsO vs.toArray 0) :: (a, o) :: l) m) : NewL P vs ((a, o) :: l) m := ⟨z, fun d h => k d h.1⟩
theorem J.tuple {elts : List Expr} {n : Nat} {pos : Pos} (k : J w c l m (spliced (backTo pos (starEach elts env))) (NewT P)) :
    J w c l m (eval (.Tuple elts n pos) env) P := fun h tk O => Tuple_ (k.run O fun v l m h tk O p => kup_newTuple O.F O.N (fun D h' F' N' lt => ⟨_, _, _, _, rfl, ⟨F', N', O.nd.cons lt⟩, p.2 D (allLt_of lt)⟩) p.1)
theorem J.list {elts : List Expr} {pos : Pos} (k : J w c l m (spliced (backTo pos (starEach elts env))) (NewL P)) :
    J w c l m (eval (.List elts pos) env) P := fun h tk O => List_ (k.run O fun v l m h tk O p => newList_K O.F O.N (fun D h' F' N' lt => ⟨_, _, _, _, rfl, ⟨F', N', O.nd.cons lt⟩, p.2 D (allLt_of lt)⟩) p.1)
theorem J.bin {x y : Expr} {op : Operator} {pos : Pos} (k : J w c l m (eval x env) (KBin w c env P op y)) : J w c l m (eval (.BinOp x op y pos) env) P := fun h tk O =>
  wpAny_BinOp (k.run O fun v l m h tk O p => p.run O fun v l m h tk O p => p.run O fun v l m h tk O p => ⟨_, _, _, _, rfl, O, p⟩)
theorem J.una {x : Expr} {op : PySem.UnaryOp} {pos : Pos} (k : J w c l m (eval x env) (KUna w c P op)) : J w c l m (eval (.UnaryOp op x pos) env) P := fun h tk O =>
  UnaryOp_ (k.run O fun v l m h tk O p => p.run O fun v l m h tk O p => ⟨_, _, _, _, rfl, O, p⟩)
theorem J.cmp {x y : Expr} {op : CmpOp} {pos : Pos} {whole : Sem Value} (k : J w c l m (eval x env) (KCmp w c env (KTru w c PB) op y))
    (hb : autoParam (behindInMarks op y = false) Mine.aT3._auto_1) : J w c l m (PySem.isTrue (.Compare x [op] [y] pos) env whole) PB := fun h tk O =>
  wpAny_isTrue_Compare1 (k.run O fun v l m h tk O p => p.run O fun v l m h tk O p => p.run O fun v l m h tk O p => p.run O fun v l m h tk O p => ⟨_, _, _, _, rfl, O, p⟩) hb
theorem J.cmpV {x y : Expr} {op : CmpOp} {pos : Pos} (k : J w c l m (eval x env) (KCmp w c env P op y))
    (hb : autoParam (behindInMarks op y = false) Mine.aT3._auto_1) : J w c l m (eval (.Compare x [op] [y] pos) env) P := fun h tk O =>
  wpAny_Compare1 (k.run O fun v l m h tk O p => p.run O fun v l m h tk O p => p.run O fun v l m h tk O p => ⟨_, _, _, _, rfl, O, p⟩) hb
theorem J.notT {x : Expr} {pos : Pos} {whole : Sem Value} (k : J w c l m (PySem.isTrue x env (eval x env)) (KNot PB)) : J w c l m (PySem.isTrue (.UnaryOp .Not x pos) env whole) PB := fun h tk O =>
  isTrue_not (k.run O fun v l m h tk O p => ⟨_, _, _, _, rfl, O, p⟩)
theorem J.plain {e : Expr} {whole : Sem Value} (k : J w c l m whole (KTru w c PB)) (he : autoParam (PySem.isTrue e env whole = (do let v ← whole; standAt e.pos; holding [v] (PySem.truthy v))) Mine.aT3._auto_1) : J w c l m (PySem.isTrue e env whole) PB := fun h tk O =>
  isTrue_plain (k.run O fun v l m h tk O p => p.run O fun v l m h tk O p => ⟨_, _, _, _, rfl, O, p⟩) he
theorem J.and0 {pos : Pos} {whole : Sem Value} (k : PB true l m) : J w c l m (PySem.isTrue (.BoolOp .And [] pos) env whole) PB := fun h tk O => isTrue_and_nil ⟨_, _, _, _, rfl, O, k⟩
theorem J.or0 {pos : Pos} {whole : Sem Value} (k : PB false l m) : J w c l m (PySem.isTrue (.BoolOp .Or [] pos) env whole) PB := fun h tk O => isTrue_or_nil ⟨_, _, _, _, rfl, O, k⟩
theorem J.andT {x : Expr} {rest : List Expr} {pos : Pos} {whole : Sem Value} (k : J w c l m (PySem.isTrue x env (eval x env)) (KAndT w c env PB rest pos whole)) :
    J w c l m (PySem.isTrue (.BoolOp .And (x :: rest) pos) env whole) PB := fun h tk O => isTrue_and (k.run O fun v l m h tk O p => by
      split <;> rename_i q
      · replace p := Eq.mp (if_pos q) p; exact p.run O fun _ _ _ _ _ O p => ⟨_, _, _, _, rfl, O, p⟩
      · replace p := Eq.mp (if_neg q) p; exact ⟨_, _, _, _, rfl, O, p⟩)
theorem J.orT {x : Expr} {rest : List Expr} {pos : Pos} {whole : Sem Value} (k : J w c l m (PySem.isTrue x env (eval x env)) (KOrT w c env PB rest pos whole)) :
    J w c l m (PySem.isTrue (.BoolOp .Or (x :: rest) pos) env whole) PB := fun h tk O => isTrue_or (k.run O fun v l m h tk O p => by
      split <;> rename_i q
      · replace p := Eq.mp (if_pos q) p; exact ⟨_, _, _, _, rfl, O, p⟩
      · replace p := Eq.mp (if_neg q) p; exact p.run O fun _ _ _ _ _ O p => ⟨_, _, _, _, rfl, O, p⟩)
theorem J.one {op : PySem.BoolOp} {x : Expr} {pos : Pos} (k : J w c l m (eval x env) P) : J w c l m (eval (.BoolOp op [x] pos) env) P := fun h tk O => BoolOp_one (k h tk O)
theorem J.orV {x y : Expr} {rest : List Expr} {pos : Pos} (k : J w c l m (eval x env) (KOrV w c env P (.BoolOp .Or (y :: rest) pos))) :
    J w c l m (eval (.BoolOp .Or (x :: y :: rest) pos) env) P := fun h tk O => BoolOp_or (k.run O fun v l m h tk O p => p.run O fun b l m h tk O p => by
      split <;> rename_i q
      · replace p := Eq.mp (if_pos q) p; exact ⟨_, _, _, _, rfl, O, p⟩
      · replace p := Eq.mp (if_neg q) p; exact p.run O fun _ _ _ _ _ O p => ⟨_, _, _, _, rfl, O, p⟩)
theorem J.andV {x y : Expr} {rest : List Expr} {pos : Pos} (k : J w c l m (eval x env) (KAndV w c env P (.BoolOp .And (y :: rest) pos))) :
    J w c l m (eval (.BoolOp .And (x :: y :: rest) pos) env) P := fun h tk O => BoolOp_and (k.run O fun v l m h tk O p => p.run O fun b l m h tk O p => by
      split <;> rename_i q
      · replace p := Eq.mp (if_pos q) p; exact p.run O fun _ _ _ _ _ O p => ⟨_, _, _, _, rfl, O, p⟩
      · replace p := Eq.mp (if_neg q) p; exact ⟨_, _, _, _, rfl, O, p⟩)
theorem J.ifx {test x y : Expr} {pos : Pos} (k : J w c l m (PySem.isTrue test env (eval test env)) (KIfx w c env P x y)) : J w c l m (eval (.IfExp test x y pos) env) P := fun h tk O =>
  IfExp_ (k.run O fun b l m h tk O p => by
      split <;> rename_i q
      · replace p := Eq.mp (if_pos q) p; exact p.run O fun _ _ _ _ _ O p => ⟨_, _, _, _, rfl, O, p⟩
      · replace p := Eq.mp (if_neg q) p; exact p.run O fun _ _ _ _ _ O p => ⟨_, _, _, _, rfl, O, p⟩)
theorem J.truthy {b : Bool} (k : PB b l m) : J w c l m (truthy (.bool b)) PB := fun h tk O => wpAny_truthy_bool ⟨_, _, _, _, rfl, O, k⟩
theorem J.iteT {b : Bool} {p q : Prop} (e : b = true) (h : p) : if b = true then p else q := by rw [if_pos e]; exact h
theorem J.iteF {b : Bool} {p q : Prop} (e : b = false) (h : q) : if b = true then p else q := by rw [e]; exact h
theorem J.ite2 {b : Bool} {p q : Prop} (h1 : b = true → p) (h2 : b = false → q) : if b = true then p else q := by cases b; exact h2 rfl; exact h1 rfl
theorem J.eqInt {x y : Int} {t u : Tok} (k : P (.bool (x == y)) l m) : J w c l m (compareOp .Eq (.int x t) (.int y u)) P := fun h tk O => eq_int ⟨_, _, _, _, rfl, O, k⟩
theorem J.neInt {x y : Int} {t u : Tok} (k : P (.bool (x != y)) l m) : J w c l m (compareOp .NotEq (.int x t) (.int y u)) P := fun h tk O => ne_int ⟨_, _, _, _, rfl, O, k⟩
theorem J.ltInt {x y : Int} {t u : Tok} (k : P (.bool (decide (x < y))) l m) : J w c l m (compareOp .Lt (.int x t) (.int y u)) P := fun h tk O => lt_int ⟨_, _, _, _, rfl, O, k⟩
theorem J.gtInt {x y : Int} {t u : Tok} (k : P (.bool (decide (y < x))) l m) : J w c l m (compareOp .Gt (.int x t) (.int y u)) P := fun h tk O => gt_int ⟨_, _, _, _, rfl, O, k⟩
theorem J.eqStr {x y : Str} {t u : Tok} (k : P (.bool (x == y)) l m) : J w c l m (compareOp .Eq (.str x t) (.str y u)) P := fun h tk O => eq_str ⟨_, _, _, _, rfl, O, k⟩
theorem J.addInt {x y : Int} {t u : Tok} (k : ∀ t, P (.int (x + y) t) l m) : J w c l m (binaryOp .Add (.int x t) (.int y u)) P := fun h tk O => add_int ⟨_, _, _, _, rfl, O, k _⟩
theorem J.subInt {x y : Int} {t u : Tok} (k : ∀ t, P (.int (x - y) t) l m) : J w c l m (binaryOp .Sub (.int x t) (.int y u)) P := fun h tk O => sub_int ⟨_, _, _, _, rfl, O, k _⟩
theorem J.mulInt {x y : Int} {t u : Tok} (hm : IntMulOk x y) (k : ∀ t, P (.int (x * y) t) l m) : J w c l m (binaryOp .Mult (.int x t) (.int y u)) P := fun h tk O => mul_int ⟨_, _, _, _, rfl, O, k _⟩ hm
theorem J.modInt {x y : Int} {t u : Tok} (hy : y ≠ 0) (k : ∀ t, P (.int (x.fmod y) t) l m) : J w c l m (binaryOp .Mod (.int x t) (.int y u)) P := fun h tk O => mod_int' hy ⟨_, _, _, _, rfl, O, k _⟩
theorem J.negInt {x : Int} {t : Tok} (k : ∀ t, P (.int (-x) t) l m) : J w c l m (unaryOp .USub (.int x t)) P := fun h tk O => neg_int ⟨_, _, _, _, rfl, O, k _⟩
theorem J.bi0 {pos : Pos} {id : String} {first : List Value} (k : J w c l m (PySem.call (.builtin id) first) P) : J w c l m (callWith pos (.builtin id) first (backTo pos (starEach [] env)) []) P := fun h tk O =>
  callWith_method0 (k.run O fun v l m h tk O p => ⟨_, _, _, _, rfl, O, p⟩)
theorem J.bi {pos : Pos} {id : String} {first : List Value} {e : Expr} {rest : List Expr} (k : J w c l m (spliced (backTo pos (starEach (e :: rest) env))) (KBi w c P id first))
    (hs : autoParam (starEach (e :: rest) env = (false, eval e env) :: starEach rest env) Mine.aT3._auto_1) (hn : autoParam (((backTo pos (starEach rest env)).any fun x => x.1) = false) Mine.aT3._auto_1) : J w c l m (callWith pos (.builtin id) first (backTo pos (starEach (e :: rest) env)) []) P := fun h tk O =>
  callWith_method1 (k.run O fun v l m h tk O p => p.run O fun v l m h tk O p => ⟨_, _, _, _, rfl, O, p⟩) hs hn
theorem J.fn {pos : Pos} {f : Addr} {first : List Value} {e : Expr} {rest : List Expr} (G : Gc w c) (k : J w c l m (spliced (backTo pos (starEach (e :: rest) env))) (KFn w c P f first)) (hf : autoParam (keepIn (heapK w.params) (.ref f) = true) Mine.aT6._auto_1)
    (hs : autoParam (starEach (e :: rest) env = (false, eval e env) :: starEach rest env) Mine.aT3._auto_1) (hn : autoParam (((backTo pos (starEach rest env)).any fun x => x.1) = false) Mine.aT3._auto_1) : J w c l m (callWith pos (.ref f) first (backTo pos (starEach (e :: rest) env)) []) P := fun h tk O =>
  callWith_K G.X hf (k.run O fun v l m h tk O p => ⟨G.X.keeps O.F.keep, p.run O fun v l m h tk O p => ⟨_, _, _, _, rfl, O, p⟩⟩) hs hn
theorem J.fn0 {pos : Pos} {f : Addr} {first : List Value} (G : Gc w c) (k : J w c l m (PySem.call (.ref f) (first ++ [])) P) (hf : autoParam (keepIn (heapK w.params) (.ref f) = true) Mine.aT6._auto_1) : J w c l m (callWith pos (.ref f) first (backTo pos (starEach [] env)) []) P := fun h tk O =>
  callWith_K0 (G.X.keeps O.F.keep) hf (k.run O fun v l m h tk O p => ⟨_, _, _, _, rfl, O, p⟩)
noncomputable def okAttr (K : Frag) (C : Addr) (name : Str) : Bool := plainGet K C name && hasDictIn K C && match findIn K (.ref C) name with | some a => noGet K a | none => false
theorem J.attrO {x C d : Addr} {es : List DictEntry} {n : Nat} {name : Str} {v : Value} {ex : Bool} (i j : Nat) (G : Gc w c) (h1 : nth l i = some (x, instObj C d)) (h2 : nth l j = some (d, dictOf es n)) (hv : getL name es = some (some v))
    (ho : okAttr (heapK w.params) C name = true) (hh : handedIn v = true) (k : P v l m) : J w c l m (getAttr (.ref x) name ex) P := fun h tk O => by
  unfold okAttr at ho
  obtain ⟨ho, h5⟩ := Bool.and_eq_true_iff.mp ho
  obtain ⟨h3, h4⟩ := Bool.and_eq_true_iff.mp ho
  cases q : findIn (heapK w.params) (.ref C) name with
  | none => rw [q] at h5; cases h5
  | some a =>
    rw [q] at h5
    exact get_own O.F G.X (InstAt.of_news O.N (nth_mem h1) (nth_mem h2)) h3 h4 q h5 hv hh ⟨_, _, _, _, rfl, O, k⟩
theorem J.meth {x C d f : Addr} {es : List DictEntry} {n : Nat} {name : Str} {pl : Sem Bool} (i j : Nat) (G : Gc w c) (h1 : nth l i = some (x, instObj C d)) (h2 : nth l j = some (d, dictOf es n)) (hv : getL name es = some none)
    (h3 : plainGet (heapK w.params) C name = true) (h4 : findIn (heapK w.params) (.ref C) name = some (some (.ref f))) (h5 : isFn (heapK w.params) (.ref f) = true) (k : PM (.ref f, [.ref x]) l m) : J w c l m (getMethod (.ref x) name pl) PM := fun h tk O =>
  method_inst O.F G.X (InstAt.of_news O.N (nth_mem h1) (nth_mem h2)) h3 h4 h5 hv ⟨_, _, _, _, rfl, O, k⟩
theorem J.lappend {D : Addr} {its : Array Value} {n : Nat} {v : Value} {l' : Led} (u : Up D (lsO its n) (lsO (its.push v) (n + 1)) l l') (hz : its.size ≤ sizeLine) (k : P .none l' m) :
    J w c l m (PySem.call (.builtin "list.append") [.ref D, v]) P := fun h tk O => append_K O.F O.N (u.upd O.nd) (fun h' F' N' => ⟨_, _, _, _, rfl, ⟨F', N', u.nd O.nd⟩, k⟩) hz
theorem J.lmeth {D : Addr} {its : Array Value} {n : Nat} {pl : Sem Bool} (i : Nat) (h1 : nth l i = some (D, lsO its n)) (k : PM (.builtin "list.append", [.ref D]) l m) : J w c l m (getMethod (.ref D) (Str.ofString "append") pl) PM := fun h tk O =>
  listMethod_K O.N (nth_mem h1) PySem.F.slot_list_append PySem.F.type_list_append ⟨_, _, _, _, rfl, O, k⟩
theorem J.len {D : Addr} {its : Array Value} {n : Nat} {k : Int} (i : Nat) (h1 : nth l i = some (D, lsO its n)) (hk : (its.size : Int) = k) (hz : k ≤ 16384) (h : ∀ t, P (.int k t) l m) : J w c l m (PySem.call (.builtin "len") [.ref D]) P := fun _ tk O =>
  kun_lenL (News.isList O.N (nth_mem h1)) hk hz ⟨_, _, _, _, rfl, O, h _⟩
theorem line_item {prog : Program} {w : World} {A : Around} {s : Shared} {E : Value → Shared → Prop} {g : Heap} {L : Addr} {news : List (Addr × Obj)} {lA : Addr} {vs : Array Value} {n : Nat} {k : Int} {tk : Tok} {v : Value} {value slice : PySem.Expr} {Q : Value → Shared → Prop}
    (N : News g L s.heap news) (hm : (lA, lsO vs n) ∈ news) (h0 : 0 ≤ k) (hk : k < 1000) (hx : vs[k.toNat]? = some v) (h : Q v s)
    (hs : autoParam (subscripted slice false (.ref lA) (.int k tk) = operate [.ref lA, .int k tk] (getItem (.ref lA) (.int k tk))) Mine.aT8._auto_1) :
    wpAny (model prog w) A (subscriptTail value slice (.ref lA) (.int k tk)) Q E s :=
  have hL : s.heap.IsList lA vs := ⟨_, N.get hm, rfl, _, rfl⟩
  tail_any hL.typeIs slot_list_getitem.lookup (wpAny_getItem_list hL h0 (by lia) hx h) hs
theorem J.item {D : Addr} {vs : Array Value} {n : Nat} {k : Int} {tk : Tok} {v : Value} {value slice : Expr} (i : Nat) (h1 : nth l i = some (D, lsO vs n)) (h0 : 0 ≤ k) (hk : k < 1000) (hx : vs[k.toNat]? = some v) (h : P v l m)
    (hs : autoParam (subscripted slice false (.ref D) (.int k tk) = operate [.ref D, .int k tk] (getItem (.ref D) (.int k tk))) Mine.aT4._auto_1) : J w c l m (subscriptTail value slice (.ref D) (.int k tk)) P := fun _ _ O =>
  line_item O.N (nth_mem h1) h0 hk hx ⟨_, _, _, _, rfl, O, h⟩ hs
theorem J.itemT {D : Addr} {vs : List Value} {k : Int} {tk : Tok} {j : Nat} {v : Value} {value slice : Expr} (hD : c.g.get? D = some (tupO vs)) (h0 : -2 ^ 63 ≤ k) (h1 : k < 2 ^ 63) (hj : seqIndex? k vs.length = some j) (hx : vs[j]? = some v) (h : P v l m)
    (hs : autoParam (subscripted slice false (.ref D) (.int k tk) = operate [.ref D, .int k tk] (getItem (.ref D) (.int k tk))) Mine.aT3._auto_1) : J w c l m (subscriptTail value slice (.ref D) (.int k tk)) P := fun _ _ O =>
  item_tupleT (tup_at O.F.keep hD) h0 h1 hj hx ⟨_, _, _, _, rfl, O, h⟩ hs
theorem J.call0 {α : Type} {t : Sem α} {PA : α → Led → Mp → Prop} (h : ∀ h tk (Q : α → Shared → Prop), Own c l m h → (∀ v h' tk', Keep [] h h' → (Own c l m h' → PA v l m) → Q v (c.st h' tk')) → wpAny (model PR w) c.A t Q noE (c.st h tk)) : J w c l m t PA := fun h' tk O =>
  h h' tk _ O fun v h'' tk' K p => ⟨_, _, _, _, rfl, O.keep0 K, p (O.keep0 K)⟩
theorem Room.le {dp un n k : Nat} (R : Room dp un k) (h : n ≤ k) : Room dp un n := ⟨by have := R.dp; lia, by have := R.un; lia⟩
theorem J.con {α : Type} {t : Sem α} {PA : α → Led → Mp → Prop} {N : Nat} (n : Nat) (G : Gc w c) (R : Rm c N) (hN : n ≤ N)
    (h : ∀ {mean mg mb} {dp un : Nat} {fr gd} (_ : Gd w mean mg mb c.g) (_ : Room dp un n) h tk (Q : α → Shared → Prop), Own c l m h → (∀ v h' tk', Keep [] h h' → (Own c l m h' → PA v l m) → Q v (c.st h' tk')) → wpAny (model PR w) (AR dp un fr gd) t Q noE (c.st h tk)) : J w c l m t PA :=
  J.call0 fun h' tk Q O ret => by
    obtain ⟨_, _, _, g⟩ := G.gd
    obtain ⟨_, _, _, _, e, r⟩ := R
    rw [e]
    exact h g (Room.le r hN) h' tk Q O ret
theorem sub_tail {D : Led} {q : Addr × Obj} (h : ∀ p ∈ D, p ∈ l) : ∀ p ∈ D, p ∈ q :: l := fun p hp => .tail _ (h p hp)
end
end Mine

open PySem PySem.W PySem.Calls PyProof.Rows
set_option Elab.async false
set_option linter.all false
set_option maxRecDepth 100000
set_option maxHeartbeats 40000000
namespace Mine
theorem nd_of : ∀ (l : Led), (∀ p ∈ l, ∀ q ∈ l, p.1 = q.1 → p = q) → ∃ l', Nd l' ∧ ∀ p, p ∈ l' ↔ p ∈ l
  | [], _ => ⟨[], .nil, fun _ => Iff.rfl⟩
  | p :: r, h => by
    obtain ⟨r', n, e⟩ := nd_of r fun a ha b hb => h a (.tail _ ha) b (.tail _ hb)
    by_cases hp : p ∈ r
    · refine ⟨r', n, fun q => (e q).trans ⟨fun x => .tail _ x, fun x => ?_⟩⟩
      rcases List.mem_cons.mp x with rfl | x
      · exact hp
      · exact x
    · refine ⟨p :: r', List.pairwise_cons.mpr ⟨fun q hq x => hp ?_, n⟩, fun q => ?_⟩
      · have hq := (e q).mp hq
        exact h p (.head _) q (.tail _ hq) x ▸ hq
      · rw [List.mem_cons, List.mem_cons, e]
theorem nd_app {l own : Led} (n : Nd l) (n' : Nd own) (o : OwnOff own (l.map (·.1))) : Nd (l ++ own) := List.pairwise_append.mpr ⟨n, n', fun p hp q hq e => o q hq p.1 (List.mem_map_of_mem hp) e.symm⟩
inductive Cut (own : Led) : Led → Led → Prop
  | nil : Cut own own []
  | keep {p l l3} : Cut own l l3 → Cut own (p :: l) (p :: l3)
  | drop {p l l3} : Cut own l l3 → Cut own (p :: l) l3
theorem Cut.sub {own l l3 : Led} (k : Cut own l l3) : ∀ p ∈ own ++ l3, p ∈ l := by
  induction k with
  | nil => intro p hp; simpa using hp
  | keep _ ih =>
    intro p hp
    rcases List.mem_append.mp hp with q | q
    · exact .tail _ (ih p (List.mem_append_left _ q))
    · rcases List.mem_cons.mp q with rfl | q
      · exact .head _
      · exact .tail _ (ih p (List.mem_append_right _ q))
  | drop _ ih => intro p hp; exact .tail _ (ih p hp)
theorem Cut.nd {own l l3 : Led} (k : Cut own l l3) (n : Nd l) : Nd l3 ∧ OwnOff own (l3.map (·.1)) := by
  induction k with
  | nil => exact ⟨.nil, fun _ _ b hb => nomatch hb⟩
  | @keep q l l3 k ih =>
    have n' := List.pairwise_cons.mp n
    obtain ⟨a, b⟩ := ih n'.2
    refine ⟨List.pairwise_cons.mpr ⟨fun x hx => n'.1 x (k.sub x (List.mem_append_right _ hx)), a⟩, fun x hx y hy => ?_⟩
    rcases List.mem_cons.mp hy with e | hy
    · rw [e]; exact (n'.1 x (k.sub x (List.mem_append_left _ hx))).symm
    · exact b x hx y hy
  | drop _ ih => exact ih (List.pairwise_cons.mp n).2
inductive TurnE (own : Led) (Inv : Led → Mp → Prop) (fl : Flow) (l2 : Led) (m2 : Mp) : Prop
  | mk (h : fl = .next ∨ fl = .cont) (l3 : Led) (cut : Cut own l2 l3) (inv : Inv l3 m2) : TurnE own Inv fl l2 m2
section
variable {w : World} {c : Cx} {l : Led} {m : Mp} {PF : Flow → Led → Mp → Prop} {env : Env} {x : Str} {px pos : Pos} {iter : Expr} {body : List Stmt}
theorem turn_of {h : Heap} {tk : Nat} {own l1 : Led} {m1 : Mp} {v : Value} {Inv : Led → Mp → Prop} {Q : Flow → Shared → Prop} (nd : Nd l1) (off : OwnOff own (l1.map (·.1))) (F : Fr c.g c.L h (fun y => if y = x then some v else lk m1 y)) (N : News c.g c.L h (l1 ++ own))
    (turn : ∀ own, OwnOff own (l1.map (·.1)) → J w c (l1 ++ own) ((x, v) :: m1) (execs body env) (TurnE own Inv)) :
    wpAny (model PR w) c.A (execs body env) (TurnJ c.g c.L own (fun mf l' => ∃ m', mf = lk m' ∧ Nd l' ∧ Inv l' m') (c.st h tk) Q) noE (c.st h tk) := by
  obtain ⟨own', n', e'⟩ := nd_of own fun p hp q hq e => by
    have h1 := (N p (List.mem_append_right _ hp)).1
    have h2 := (N q (List.mem_append_right _ hq)).1
    rw [e, h2] at h1
    exact Prod.ext e (Option.some.inj h1).symm
  have off' : OwnOff own' (l1.map (·.1)) := fun p hp => off p ((e' p).mp hp)
  have O : Own c (l1 ++ own') ((x, v) :: m1) h := ⟨lk_put ▸ F, fun p hp => N p (by
    rcases List.mem_append.mp hp with q | q
    · exact List.mem_append_left _ q
    · exact List.mem_append_right _ ((e' p).mp q)), nd_app nd n' off'⟩
  refine (turn own' off').run O fun fl l2 m2 h2 tk2 O2 ⟨hf, l3, cut, inv⟩ => ?_
  obtain ⟨n3, o3⟩ := cut.nd O2.nd
  have sub := cut.sub
  have r : ∃ h' tk m' news', (c.st h2 tk2) = { c.st h tk with heap := h', toks := tk } ∧ Fr c.g c.L h' m' ∧ News c.g c.L h' (own ++ news') ∧ OwnOff own (news'.map (·.1)) ∧ ∃ m'', m' = lk m'' ∧ Nd news' ∧ Inv news' m'' :=
    ⟨h2, tk2, _, l3, rfl, O2.F, fun p hp => O2.N p (sub p (by
      rcases List.mem_append.mp hp with q | q
      · exact List.mem_append_left _ ((e' p).mpr q)
      · exact List.mem_append_right _ q)), fun p hp => o3 p ((e' p).mpr hp), m2, rfl, n3, inv⟩
  rcases hf with rfl | rfl <;> exact r
inductive KForL (w : World) (c : Cx) (PF : Flow → Led → Mp → Prop) (env : Env) (x : Str) (body : List Stmt) (Inv : Nat → Led → Mp → Prop) (xv : Value) (l : Led) (m : Mp) : Prop
  | mk (D : Addr) (items : Array Value) (e : xv = .ref D) (hD : c.g.IsList D items) (h0 : Inv 0 l m) (turn : ∀ i v l1 m1 own, items[i]? = some v → Inv i l1 m1 → OwnOff own (l1.map (·.1)) → J w c (l1 ++ own) ((x, v) :: m1) (execs body env) (TurnE own (Inv (i + 1))))
      (done : ∀ l1 m1, Inv items.size l1 m1 → PF .next l1 m1) : KForL w c PF env x body Inv xv l m
theorem J.forL (he : EnvX c env) (n : Nat) (R : Rm c n) (Inv : Nat → Led → Mp → Prop) (k : J w c l m (eval iter env) (KForL w c PF env x body Inv))
    (hx : autoParam (env.kindOf x = some .local) Mine.aT3._auto_1) (hs : autoParam (∀ x, foldedSetIterable iter env x = pure x) Mine.aT9._auto_1) : J w c l m (exec (.For (.Name x px) iter body [] pos) env) PF := fun h tk O => by
  obtain ⟨cn, cs, a, ccd, cl, rfl, hk⟩ := he
  obtain ⟨dp, un, fr, gd, eA, _⟩ := R
  refine For_invV c.g hx (by show (cs.kind == .class || (cs.kind == .module && _)) = false; rw [hk]; rfl) (k.run O ?_) hs (by passes_own)
  rintro xv l m h tk O ⟨D, items, rfl, hD, h0, turn, done⟩
  exact listJ (by rw [eA]) hD O.F O.N (fun i mf l1 => ∃ m1, mf = lk m1 ∧ Nd l1 ∧ Inv i l1 m1) ⟨m, rfl, O.nd, h0⟩
    (fun i v m₁ news₁ h tk own _ hv ⟨m1, e, nd, inv⟩ off F N => by subst e; exact turn_of nd off F N fun own off => turn i v news₁ m1 own hv inv off)
    fun m₁ news₁ h tk ⟨m1, e, nd, inv⟩ F N => by subst e; exact ⟨_, _, _, _, rfl, ⟨F, N, nd⟩, done _ _ inv⟩
end
end Mine

open PySem PySem.W PySem.Calls PyProof.Rows
set_option Elab.async false
set_option linter.all false
set_option maxRecDepth 100000
set_option maxHeartbeats 40000000
namespace Mine
noncomputable def WStep (n : Nat) (Inv : Nat → Led → Mp → Prop) (PF : Flow → Led → Mp → Prop) : Flow → Led → Mp → Prop := fun fl l2 m2 => match fl with
  | .next => ∃ n', n' < n ∧ Inv n' l2 m2
  | .cont => ∃ n', n' < n ∧ Inv n' l2 m2
  | .brk => PF .next l2 m2
  | .ret v => PF (.ret v) l2 m2
theorem J.while {w : World} {c : Cx} {l : Led} {m : Mp} {PF : Flow → Led → Mp → Prop} {env : Env} {test : Expr} {body : List Stmt} {pos : Pos} {n0 : Nat} (Inv : Nat → Led → Mp → Prop) (h0 : Inv n0 l m)
    (turn : ∀ n l1 m1, Inv n l1 m1 → J w c l1 m1 (PySem.isTrue test env (eval test env)) (fun b l2 m2 => if b = true then J w c l2 m2 (execs body env) (WStep n Inv PF) else PF .next l2 m2)) :
    J w c l m (exec (.While test body [] pos) env) PF := fun h tk O => by
  refine While_inv2 (fun n mf l' => ∃ m', mf = lk m' ∧ Nd l' ∧ Inv n l' m') O.F O.N ⟨m, rfl, O.nd, h0⟩ ?_ (by passes_own)
  rintro n mf l1 h1 tk1 F N ⟨m1, rfl, nd, inv⟩
  refine J.run (turn n l1 m1 inv) ⟨F, N, nd⟩ fun b l2 m2 h2 tk2 O2 p => ?_
  cases b with
  | false => exact ⟨_, _, _, _, rfl, O2, p⟩
  | true =>
    refine J.run p O2 fun fl l3 m3 h3 tk3 O3 q => ?_
    cases fl with
    | next => obtain ⟨n', lt, inv⟩ := q; exact ⟨h3, tk3, _, l3, n', rfl, O3.F, O3.N, lt, m3, rfl, O3.nd, inv⟩
    | cont => obtain ⟨n', lt, inv⟩ := q; exact ⟨h3, tk3, _, l3, n', rfl, O3.F, O3.N, lt, m3, rfl, O3.nd, inv⟩
    | brk => exact ⟨_, _, _, _, rfl, O3, q⟩
    | ret v => exact ⟨_, _, _, _, rfl, O3, q⟩
section
variable {w : World} {c : Cx} {l : Led} {m : Mp} {P : Value → Led → Mp → Prop} {PF : Flow → Led → Mp → Prop} {PB : Bool → Led → Mp → Prop} {env : Env} {N : Nat}
noncomputable def binds : List Str → List Value → Mp → Mp
  | x :: xs, v :: vs, m => binds xs vs ((x, v) :: m)
  | _, _, m => m
theorem store_run (he : EnvX c env) {x : Str} {v : Value} {h : Heap} {tk : Nat} {Q : Unit → Shared → Prop} (hx : env.kindOf x = some .local) (O : Own c l m h) (k : ∀ h' tk', Own c l ((x, v) :: m) h' → Q () (c.st h' tk')) : wpAny (model PR w) c.A (storeName env x v) Q noE (c.st h tk) := by
  obtain ⟨cn, cs, a, ccd, cl, rfl, hk⟩ := he
  exact storeX_L O.F O.N (fun h' F' N' => k h' _ ⟨lk_put ▸ F', N', O.nd⟩) hk hx
theorem binds_run (he : EnvX c env) {Q : Unit → Shared → Prop} : ∀ (xs : List Str) (vs : List Value) (m : Mp) (h : Heap) (tk : Nat), (∀ x ∈ xs, env.kindOf x = some .local) → Own c l m h → (∀ h' tk', Own c l (binds xs vs m) h' → Q () (c.st h' tk')) →
    wpAny (model PR w) c.A (assignInOrder (xs.map fun n => bindName env n) vs) Q noE (c.st h tk)
  | [], _, m, h, tk, _, O, k => assignInOrder_nil (k h tk O)
  | _ :: _, [], m, h, tk, _, O, k => wpAny_pure (k h tk O)
  | x :: xs, v :: vs, m, h, tk, hx, O, k => assignInOrder_cons (bindName_ (store_run he (hx x (.head _)) O fun h' tk' O' => binds_run he xs vs _ h' tk' (fun y hy => hx y (.tail _ hy)) O' k))
inductive KTupS (PF : Flow → Led → Mp → Prop) (names : List Str) (v : Value) (l : Led) (m : Mp) : Prop
  | mk (D : Addr) (vs : List Value) (e : v = .ref D) (h : (D, tupO vs) ∈ l) (hl : vs.length = names.length) (p : PF .next l (binds names.reverse vs.reverse m)) : KTupS PF names v l m
theorem J.tupS {elts : List Expr} {k0 : Nat} {tpos pos : Pos} {value : Expr} (he : EnvX c env) (R : Rm c N) (names : List Str) (k : J w c l m (eval value env) (KTupS PF names))
    (hx : autoParam ((names.all fun x => decide (env.kindOf x = some .local)) = true) Mine.aT3._auto_1) (hs : autoParam (swapsWithSole [.Tuple elts k0 tpos] value pos.line env = pure false) Mine.aT3._auto_1) (hw : autoParam (swappedStores [.Tuple elts k0 tpos] value env = pure (some names)) Mine.aT3._auto_1) :
    J w c l m (exec (.Assign [.Tuple elts k0 tpos] value pos) env) PF := fun h tk O => by
  obtain ⟨_, _, _, _, eA, _⟩ := R
  refine Assign_Tuple_swapped (k.run O ?_) hs hw
  rintro v l m h tk O ⟨D, vs, rfl, hD, hl, p⟩
  refine unpackItemsN_ O.F O.N (⟨_, (O.N _ hD).1, rfl, _, rfl⟩ : IsTup h D vs.toArray) (by rw [eA]) (by simpa using hl.symm) fun h' F' N' => ?_
  exact binds_run he _ _ _ h' _ (fun x hx' => of_decide_eq_true (List.all_eq_true.mp hx x (List.mem_reverse.mp hx'))) ⟨F', N', O.nd⟩ fun h'' tk'' O'' => ⟨_, _, _, _, rfl, O'', p⟩
theorem J.absInt {x : Int} {t : Tok} (k : ∀ t, P (.int (if x < 0 then -x else x) t) l m) : J w c l m (PySem.call (.builtin "abs") [.int x t]) P := fun h tk O => call_abs_int fun u tk' => ⟨_, _, _, _, rfl, O, k u⟩
theorem J.cmp2 {x y z : Expr} {o1 o2 : CmpOp} {pos : Pos} {whole : Sem Value} (k : J w c l m (eval x env) (fun a l m => J w c l m (eval y env) (fun b l m => J w c l m (compareOp o1 a b) (fun v l m => J w c l m (PySem.truthy v) (fun t l m => if t = true then J w c l m (eval z env) (KCmp2 w c (KTru w c PB) o2 b) else PB false l m)))))
    (hm : autoParam (lastMarks [o1, o2] [y, z] = false) Mine.aT4._auto_1) : J w c l m (PySem.isTrue (.Compare x [o1, o2] [y, z] pos) env whole) PB := fun h tk O =>
  isTrue_chain (k.run O fun a l m h tk O p => test_link (p.run O fun b l m h tk O p => p.run O fun v l m h tk O p => p.run O fun t l m h tk O p => by
    cases t with
    | true => exact test_last (J.run p O fun b l m h tk O p => J.run p O fun v l m h tk O p => J.run p O fun t l m h tk O p => ⟨_, _, _, _, rfl, O, p⟩)
    | false => exact ⟨_, _, _, _, rfl, O, p⟩)) hm
end
end Mine

open PySem PySem.W PySem.Calls PyProof.Rows
set_option Elab.async false
set_option linter.all false
set_option maxRecDepth 100000
set_option maxHeartbeats 40000000
namespace Mine
noncomputable def GcdI (x y : Int) (n : Nat) (_ : Led) (m : Mp) : Prop :=
  ∃ (a b : Int) (ta tb : Tok), m.lookup (Str.ofString "a") = some (.int a ta) ∧ m.lookup (Str.ofString "b") = some (.int b tb) ∧ 0 ≤ a ∧ 0 ≤ b ∧ n = b.toNat ∧ Int.gcd a b = Int.gcd x y
theorem gcd_emod (a b : Int) : Int.gcd (a % b) b = Int.gcd a b := by
  have e : a % b = a + b * (-(a / b)) := by rw [Int.emod_def, Int.mul_neg]; lia
  rw [e, Int.gcd_add_mul_left_left]
theorem gcd_abs (x y : Int) : Int.gcd (if x < 0 then -x else x) (if y < 0 then -y else y) = Int.gcd x y := by
  have e1 : (if x < 0 then -x else x) = (x.natAbs : Int) := by split <;> lia
  have e2 : (if y < 0 then -y else y) = (y.natAbs : Int) := by split <;> lia
  rw [e1, e2]
  simp [Int.gcd]
theorem abs_nn (x : Int) : 0 ≤ (if x < 0 then -x else x) := by split <;> lia
theorem GcdI.step {x y a b : Int} (h0 : 0 ≤ a) (hb : 0 ≤ b) (n0 : ¬ b = 0) (g : Int.gcd a b = Int.gcd x y) : (a.fmod b).toNat < b.toNat ∧ 0 ≤ a.fmod b ∧ Int.gcd b (a.fmod b) = Int.gcd x y := by
  have h1 := Int.fmod_lt_of_pos a (b := b) (by lia)
  have h2 := Int.fmod_nonneg_of_pos a (b := b) (by lia)
  exact ⟨by lia, h2, by rw [← g, Int.fmod_eq_emod_of_nonneg _ hb, Int.gcd_comm b, gcd_emod]⟩
section
variable {w : World} {mean : ExcName → Option Value} {mg mb : Str → Option Value} {dp un : Nat} {fr : Option (List Env)} {gd : Option (List Code)} {s : Shared} {E : Value → Shared → Prop} {Q : Value → Shared → Prop} {hb : Heap}
theorem jlines_MGcd : True := by
  k_with_none
  k_with "j" => (first | ((with_reducible refine (?_ : J _ _ _ _ (eval (.Name _ _) _) _)); first | refine J.name (by assumption) (by rfl) ?_ | refine J.nameK (by assumption) (by assumption) ?_ | refine J.nameB (by assumption) (by assumption) ?_))
  k_with "j" => (first | (with_reducible refine J.truthy ?_) | (with_reducible refine J.eqInt ?_) | (with_reducible refine J.neInt ?_) | (with_reducible refine J.ltInt ?_) | (with_reducible refine J.gtInt ?_) | (with_reducible refine J.eqStr ?_) | ((with_reducible refine J.addInt ?_); intro t_l) | ((with_reducible refine J.subInt ?_); intro t_l) | ((with_reducible refine J.negInt ?_); intro t_l) | ((with_reducible refine J.mulInt ?_ ?_); (focus assumption); intro t_l) | ((with_reducible refine J.modInt ?_ ?_); (focus (first | assumption | decide | lia)); intro t_l))
  k_with "j" => ((with_reducible refine (?_ : @ite Prop (_ = true) (instDecidableEqBool _ _) _ _)); first | refine J.iteT (by k_extra "dec") ?_ | refine J.iteF (by k_extra "dec") ?_ | (refine J.ite2 ?_ ?_ <;> (intro q_l; (try simp only [beq_iff_eq, bne_iff_ne, decide_eq_true_eq, decide_eq_false_iff_not, beq_eq_false_iff_ne, ne_eq] at q_l))))
  k_with "dec" => (first | rfl | assumption | (simp only [beq_iff_eq, bne_iff_ne, ne_eq, beq_eq_false_iff_ne, bne_eq_false_iff_eq, not_false_eq_true]; done) | ((try simp only [beq_iff_eq, bne_iff_ne, decide_eq_true_eq, ne_eq, Bool.and_eq_true, Bool.or_eq_true, Bool.not_eq_true', beq_eq_false_iff_ne, bne_eq_false_iff_eq, decide_eq_false_iff_not, Bool.not_eq_true]); first | assumption | lia))
  k_with "j" => (first | ((with_reducible refine NewT.mk ?_ ?_); (focus (exact Nat.le_of_ble_eq_true rfl)); intro d_l) | ((with_reducible refine NewL.mk ?_ ?_); (focus (exact Nat.le_of_ble_eq_true rfl)); intro d_l))
  k_with "j" => (first | (with_reducible refine J.arg ?_) | (with_reducible refine J.arg0 ?_) | (with_reducible refine J.bi0 ?_) | (with_reducible refine J.bi ?_) | ((with_reducible refine J.fn0 ?_ ?_); (focus assumption)) | ((with_reducible refine J.fn ?_ ?_); (focus assumption)))
  k_with "j" => (first | ((with_reducible refine J.int ?_); intro t_l) | ((with_reducible refine J.str ?_); intro t_l) | (with_reducible refine J.bool ?_) | (with_reducible refine J.attrN ?_) | (with_reducible refine J.mcall ?_) | (with_reducible refine J.call ?_) | (with_reducible refine J.sub ?_) | (with_reducible refine J.tuple ?_) | (with_reducible refine J.list ?_) | (with_reducible refine J.bin ?_) | (with_reducible refine J.una ?_) | (with_reducible refine J.cmpV ?_) | (with_reducible refine J.one ?_) | (with_reducible refine J.orV ?_) | (with_reducible refine J.andV ?_) | (with_reducible refine J.ifx ?_))
  k_with "j" => (first | (with_reducible refine J.cmp ?_) | (with_reducible refine J.notT ?_) | (with_reducible refine J.and0 ?_) | (with_reducible refine J.or0 ?_) | (with_reducible refine J.andT ?_) | (with_reducible refine J.orT ?_) | (with_reducible refine J.plain ?_))
  k_with "j" => (first | (with_reducible refine J.cons ?_) | (with_reducible refine nxt_next ?_) | (with_reducible refine nxt_ret ?_) | (with_reducible refine J.nil ?_) | ((with_reducible refine J.assign ?_ ?_); (focus assumption)) | (with_reducible refine J.expr ?_) | (with_reducible refine J.ret ?_) | (with_reducible refine J.ifs ?_) | (with_reducible refine J.asub ?_) | (with_reducible refine J.aattr ?_))
  k_with "j" => ((with_reducible refine (?_ : J _ _ _ _ (getAttr _ _ _) _)); refine J.attrO _ _ (by assumption) (by k_extra "nth") (by k_extra "nth") (by first | assumption | k_get) (by kernel_rfl) rfl ?_)
  k_with "j" => ((with_reducible refine (?_ : J _ _ _ _ (getMethod _ _ _) _)); first | refine J.lmeth _ (by k_extra "nth") ?_ | refine J.meth _ _ (by assumption) (by k_extra "nth") (by k_extra "nth") (by first | assumption | k_get) (by k_is) (by k_is) (by k_is) ?_)
  k_with "j" => ((with_reducible refine (?_ : J _ _ _ _ (PySem.call (.builtin "list.append") _) _)); refine J.lappend (by k_extra "up") (by rw [sizeLine_eq]; lia) ?_)
  k_with "j" => ((with_reducible refine (?_ : J _ _ _ _ (PySem.call (.builtin "len") _) _)); refine J.len _ (by k_extra "nth") rfl (by lia) ?_; intro t_l)
  k_with "j" => ((with_reducible refine (?_ : J _ _ _ _ (subscriptTail _ _ _ _) _)); first | refine J.item _ (by k_extra "nth") (by assumption) (by assumption) (by assumption) ?_ | refine J.itemT (by assumption) (by decide) (by decide) rfl rfl ?_)
  k_with "nth" => (first | exact (rfl : nth _ 0 = _) | exact (rfl : nth _ 1 = _) | exact (rfl : nth _ 2 = _) | exact (rfl : nth _ 3 = _) | exact (rfl : nth _ 4 = _) | exact (rfl : nth _ 5 = _) | exact (rfl : nth _ 6 = _) | exact (rfl : nth _ 7 = _) | exact (rfl : nth _ 8 = _) | exact (rfl : nth _ 9 = _) | k_extra "nth2")
  k_with "nth2" => (first | exact (rfl : nth _ 10 = _) | exact (rfl : nth _ 11 = _) | exact (rfl : nth _ 12 = _) | exact (rfl : nth _ 13 = _) | exact (rfl : nth _ 14 = _) | exact (rfl : nth _ 15 = _) | exact (rfl : nth _ 16 = _) | exact (rfl : nth _ 17 = _) | exact (rfl : nth _ 18 = _) | exact (rfl : nth _ 19 = _) | exact (rfl : nth _ 20 = _) | exact (rfl : nth _ 21 = _) | exact (rfl : nth _ 22 = _) | exact (rfl : nth _ 23 = _))
  k_with "up" => (first | exact Up.head | (refine' Up.tail ?u9; (case u9 => k_extra "up")))
  k_with "upf" => (first | exact UpF.head | (refine' UpF.tail ?u9; (case u9 => k_extra "upf")))
  k_with "sub" => (first | (with_reducible exact fun _ h => h) | (refine sub_tail ?_; k_extra "sub"))
  trivial
theorem gcd_fn (G : Gd w mean mg mb hb) (kp : ∀ b o, hb.get? b = some o → s.heap.get? b = some o) (R : Room dp un 3) (x y : Int) (tx ty : Tok)
    (hret : ∀ t h' tk', Keep [] s.heap h' → Q (.int (Int.gcd x y) t) { s with heap := h', toks := tk' }) :
    wpAny (model PySem.Challenge.rw_sj0101_01.row.prog w) (AR dp un fr gd) (call (.ref 95) [.int x tx, .int y ty]) Q E s := by
  have X₀ := G.X
  revert X₀
  k_fill
  intro X₀
  clear X₀
  refine call_J (n := 2) [] [((Str.ofString "a"), .int x tx), ((Str.ofString "b"), .int y ty)] R G kp (fun _ h => nomatch h) .nil ?_
  intro c G R he en
  dsimp only [List.reverse, List.reverseAux]
  k_with "gcd_MGcd" => ((with_reducible refine (?_ : J _ _ _ _ (exec (.Assign [.Tuple _ _ _] _ _) _) _)); refine J.tupS he R [(Str.ofString "a"), (Str.ofString "b")] ?_)
  k_with "gcd_MGcd" => ((with_reducible refine (?_ : KTupS _ _ _ _ _)); refine ⟨_, _, rfl, .head _, rfl, ?_⟩)
  k_with "gcd_MGcd" => ((with_reducible refine (?_ : J _ _ _ _ (PySem.call (.builtin "abs") _) _)); refine J.absInt ?_; intro t_l)
  repeat' (first | k_extra "gcd_MGcd" | k_extra "j")
  refine J.while (GcdI x y) ⟨_, _, _, _, rfl, rfl, abs_nn x, abs_nn y, rfl, gcd_abs x y⟩ ?_
  rintro n l m ⟨a, b, ta, tb, ea, eb, ha, hb, rfl, g⟩
  k_with "gcd_MGcd" => ((with_reducible refine (?_ : J _ _ _ _ (eval (.Name _ _) _) _)); first | refine J.name he ea ?_ | refine J.name he eb ?_)
  repeat' (first | k_extra "gcd_MGcd" | k_extra "j")
  · rename ¬ (b = 0) => q
    obtain ⟨s1, s2, s3⟩ := GcdI.step ha hb q g
    exact ⟨_, s1, _, _, _, _, rfl, rfl, hb, s2, rfl, s3⟩
  · rename (b != 0) = false => q
    have q := bne_eq_false_iff_eq.mp q
    intro h tk O K
    have e : a = (Int.gcd x y : Int) := by
      rw [← g, q, Int.gcd_zero_right]; lia
    subst e
    exact hret _ _ _ K
end
end Mine

open PySem PySem.W PySem.Calls PyProof.Rows
set_option Elab.async false
set_option linter.all false
set_option maxRecDepth 100000
set_option maxHeartbeats 40000000
namespace Mine
noncomputable def rnorm (t b : Int) : Int × Int := if b < 0 then (t.fdiv (-(Int.gcd t b : Int)), b.fdiv (-(Int.gcd t b : Int))) else (t.fdiv (Int.gcd t b : Int), b.fdiv (Int.gcd t b : Int))
noncomputable def radd (x y : Int × Int) : Int × Int := if x.2 = 1 ∧ y.2 = 1 then (x.1 + y.1, 1) else rnorm (x.1 * y.2 + y.1 * x.2) (x.2 * y.2)
noncomputable def rmul (x y : Int × Int) : Int × Int := if x.2 = 1 ∧ y.2 = 1 then (x.1 * y.1, 1) else rnorm (x.1 * y.1) (x.2 * y.2)
section
variable {w : World} {c : Cx} {l : Led} {m : Mp} {P : Value → Led → Mp → Prop} {N : Nat}
theorem J.fdivInt {x y : Int} {t u : Tok} (hy : y ≠ 0) (hl : y.natAbs.log2 < 9000) (k : ∀ t, P (.int (x.fdiv y) t) l m) : J w c l m (binaryOp .FloorDiv (.int x t) (.int y u)) P := fun h tk O => floordiv_int hy ⟨_, _, _, _, rfl, O, k _⟩ (Or.inl (PyProof.noPylong_of_log2 hl))
theorem J.gcd {x y : Int} {tx ty : Tok} (G : Gc w c) (R : Rm c N) (k : ∀ t, P (.int (Int.gcd x y) t) l m) (hN : autoParam (3 ≤ N) Mine.aT2._auto_1) : J w c l m (PySem.call (.ref 95) [.int x tx, .int y ty]) P :=
  J.con 3 G R hN fun g r _ _ _ O ret => gcd_fn g O.F.keep r x y tx ty fun t _ _ K => ret _ _ _ K fun _ => k t
theorem Own.new {c : Cx} {l : Led} {m : Mp} {h h' : Heap} {a : Addr} {o : Obj} (O : Own c l m h) (K : Keep [] h h') (n : h.get? a = none) (e : h'.get? a = some o) : Own c ((a, o) :: l) m h' :=
  ⟨fr_after0 O.F K, news_more O.F O.N K n e, List.pairwise_cons.mpr ⟨fun q hq x => absurd (O.N q hq).1 (by rw [← x, n]; exact fun e => nomatch e), O.nd⟩⟩
end
theorem gcd_lt {t b : Int} {k : Nat} (h0 : b ≠ 0) (h : b.natAbs < 2 ^ k) : Int.gcd t b < 2 ^ k := Nat.lt_of_le_of_lt (Int.gcd_le_natAbs_right t h0) h
theorem mul_lt {a b : Int} {k l : Nat} (ha : a.natAbs < 2 ^ k) (hb : b.natAbs < 2 ^ l) : (a * b).natAbs < 2 ^ (k + l) := by
  rw [Int.natAbs_mul, Nat.pow_add]
  exact Nat.mul_lt_mul'' ha hb
theorem gcd_nz {x y : Int} (hy : y ≠ 0) : (Int.gcd x y : Int) ≠ 0 := fun e => hy (Int.eq_zero_of_gcd_eq_zero_right (Int.ofNat.inj e))
theorem gcd_log {x y : Int} (hs : (Int.gcd x y) < 2 ^ 9000) : (Int.gcd x y : Int).natAbs.log2 < 9000 := by
  rw [Int.natAbs_natCast]; exact log2_lt_of hs (by decide)
section
variable {w : World} {mean : ExcName → Option Value} {mg mb : Str → Option Value} {dp un : Nat} {fr : Option (List Env)} {gd : Option (List Code)} {s : Shared} {E : Value → Shared → Prop} {Q : Value → Shared → Prop} {hb : Heap}
theorem ratio_fn (G : Gd w mean mg mb hb) (kp : ∀ b o, hb.get? b = some o → s.heap.get? b = some o) (R : Room dp un 5) (x y : Int) (tx ty : Tok) (hy : y ≠ 0) (hs : (Int.gcd x y) < 2 ^ 9000)
    (hret : ∀ c t1 t2 h' tk', Keep [] s.heap h' → s.heap.get? c = none → h'.get? c = some (tupO [.int (rnorm x y).1 t1, .int (rnorm x y).2 t2]) → Q (.ref c) { s with heap := h', toks := tk' }) :
    wpAny (model PySem.Challenge.rw_sj0101_01.row.prog w) (AR dp un fr gd) (call (.ref 102) [.int x tx, .int y ty]) Q E s := by
  have X₀ := G.X
  revert X₀
  k_fill
  intro X₀
  clear X₀
  refine call_J (n := 4) [] [((Str.ofString "top"), .int x tx), ((Str.ofString "bottom"), .int y ty)] R G kp (fun _ h => nomatch h) .nil ?_
  intro c G R he en
  dsimp only [List.reverse, List.reverseAux]
  have hg0 := gcd_nz (x := x) hy
  have hl0 := gcd_log hs
  have hg1 : -(Int.gcd x y : Int) ≠ 0 := Int.neg_ne_zero.mpr hg0
  have hl1 : (-(Int.gcd x y : Int)).natAbs.log2 < 9000 := by rw [Int.natAbs_neg]; exact hl0
  k_with "rat_MRat" => ((with_reducible refine (?_ : J _ _ _ _ (PySem.call (.ref 95) _) _)); refine J.gcd G R ?_; intro t_l)
  k_with "rat_MRat" => ((with_reducible refine J.fdivInt ?_ ?_ ?_); (focus assumption); (focus assumption); intro t_l)
  repeat' (first | k_extra "rat_MRat" | k_extra "j")
  · rename y < 0 => hy0
    intro h tk O K
    have e : rnorm x y = _ := if_pos hy0
    rw [e] at hret
    exact hret _ _ _ _ _ K (fresh_of en.gs O.N (.head _) List.not_mem_nil) (O.N _ (.head _)).1
  · rename ¬ y < 0 => hy0
    intro h tk O K
    have e : rnorm x y = _ := if_neg hy0
    rw [e] at hret
    exact hret _ _ _ _ _ K (fresh_of en.gs O.N (.head _) List.not_mem_nil) (O.N _ (.head _)).1
end
section
variable {w : World} {c : Cx} {l : Led} {m : Mp} {P : Value → Led → Mp → Prop} {N : Nat}
theorem J.ratio {x y : Int} {tx ty : Tok} (G : Gc w c) (R : Rm c N) (hy : y ≠ 0) (hs : (Int.gcd x y) < 2 ^ 9000) (k : ∀ d t1 t2, P (.ref d) ((d, tupO [.int (rnorm x y).1 t1, .int (rnorm x y).2 t2]) :: l) m) (hN : autoParam (5 ≤ N) Mine.aT2._auto_1) : J w c l m (PySem.call (.ref 102) [.int x tx, .int y ty]) P := fun h tk O => by
  obtain ⟨_, _, _, g⟩ := G.gd
  obtain ⟨_, _, _, _, e, r⟩ := R
  rw [e]
  exact ratio_fn g O.F.keep (Room.le r hN) x y tx ty hy hs fun d t1 t2 h' tk' K n e => ⟨h', tk', _, _, rfl, O.new K n e, k d t1 t2⟩
theorem J.item1 {D : Addr} {v0 v1 : Value} {tk : Tok} {value slice : PySem.Expr} (hD : IsTup c.g D #[v0, v1]) (h : P v1 l m)
    (hs : autoParam (subscripted slice false (.ref D) (.int 1 tk) = operate [.ref D, .int 1 tk] (getItem (.ref D) (.int 1 tk))) Mine.aT3._auto_1) : J w c l m (subscriptTail value slice (.ref D) (.int 1 tk)) P := fun _ _ O =>
  item_tupleT (l := [v0, v1]) (hD.keeps O.F.keep) (by decide) (by decide) rfl rfl ⟨_, _, _, _, rfl, O, h⟩ hs
theorem J.item0 {D : Addr} {v0 v1 : Value} {tk : Tok} {value slice : PySem.Expr} (hD : IsTup c.g D #[v0, v1]) (h : P v0 l m)
    (hs : autoParam (subscripted slice false (.ref D) (.int 0 tk) = operate [.ref D, .int 0 tk] (getItem (.ref D) (.int 0 tk))) Mine.aT3._auto_1) : J w c l m (subscriptTail value slice (.ref D) (.int 0 tk)) P := fun _ _ O =>
  item_tupleT (l := [v0, v1]) (hD.keeps O.F.keep) (by decide) (by decide) rfl rfl ⟨_, _, _, _, rfl, O, h⟩ hs
end
theorem radd_one {x y : Int × Int} (h : x.2 = y.2) (h1 : y.2 = 1) : radd x y = (x.1 + y.1, 1) := if_pos ⟨h.trans h1, h1⟩
theorem rmul_one {x y : Int × Int} (h : x.2 = y.2) (h1 : y.2 = 1) : rmul x y = (x.1 * y.1, 1) := if_pos ⟨h.trans h1, h1⟩
theorem radd_rat {x y : Int × Int} (h : ¬ (x.2 = y.2 ∧ y.2 = 1)) : radd x y = rnorm (x.1 * y.2 + y.1 * x.2) (x.2 * y.2) := if_neg fun ⟨a, b⟩ => h ⟨a.trans b.symm, b⟩
theorem rmul_rat {x y : Int × Int} (h : ¬ (x.2 = y.2 ∧ y.2 = 1)) : rmul x y = rnorm (x.1 * y.1) (x.2 * y.2) := if_neg fun ⟨a, b⟩ => h ⟨a.trans b.symm, b⟩
section
variable {w : World} {mean : ExcName → Option Value} {mg mb : Str → Option Value} {dp un : Nat} {fr : Option (List Env)} {gd : Option (List Code)} {s : Shared} {E : Value → Shared → Prop} {Q : Value → Shared → Prop} {hb : Heap}
theorem add_fn (G : Gd w mean mg mb hb) (kp : ∀ b o, hb.get? b = some o → s.heap.get? b = some o) (R : Room dp un 8) (a b : Addr) (x y : Int × Int) (t1 t2 u1 u2 : Tok)
    (ha : IsTup s.heap a #[.int x.1 t1, .int x.2 t2]) (hb' : IsTup s.heap b #[.int y.1 u1, .int y.2 u2])
    (x0 : x.2 ≠ 0) (y0 : y.2 ≠ 0) (l1 : x.1.natAbs < 2 ^ 2000) (l2 : x.2.natAbs < 2 ^ 2000) (l3 : y.1.natAbs < 2 ^ 2000) (l4 : y.2.natAbs < 2 ^ 2000)
    (hret : ∀ c t1 t2 h' tk', Keep [] s.heap h' → s.heap.get? c = none → h'.get? c = some (tupO [.int (radd x y).1 t1, .int (radd x y).2 t2]) → Q (.ref c) { s with heap := h', toks := tk' }) :
    wpAny (model PySem.Challenge.rw_sj0101_01.row.prog w) (AR dp un fr gd) (call (.ref 109) [.ref a, .ref b]) Q E s := by
  have X₀ := G.X
  revert X₀
  k_fill
  intro X₀
  clear X₀
  refine call_J (n := 7) [] [((Str.ofString "a"), .ref a), ((Str.ofString "b"), .ref b)] R G kp (fun _ h => nomatch h) .nil ?_
  intro c G R he en
  dsimp only [List.reverse, List.reverseAux]
  have ha : IsTup c.g a _ := ha.keeps fun b o e => en.gs b o List.not_mem_nil e
  have hb' : IsTup c.g b _ := hb'.keeps fun b o e => en.gs b o List.not_mem_nil e
  have m1 : IntMulOk x.1 y.2 := mulOk (k := 2000) l1 l4 (by decide) (by decide)
  have m2 : IntMulOk y.1 x.2 := mulOk (k := 2000) l3 l2 (by decide) (by decide)
  have m3 : IntMulOk x.2 y.2 := mulOk (k := 2000) l2 l4 (by decide) (by decide)
  have m4 : x.2 * y.2 ≠ 0 := Int.mul_ne_zero x0 y0
  have m5 : Int.gcd (x.1 * y.2 + y.1 * x.2) (x.2 * y.2) < 2 ^ 9000 := Nat.lt_of_lt_of_le (gcd_lt m4 (mul_lt l2 l4)) (Nat.pow_le_pow_right (by decide) (by decide))
  k_with "ra_MRat" => (first | (with_reducible refine J.item1 (by assumption) ?_) | (with_reducible refine J.item0 (by assumption) ?_))
  k_with "ra_MRat" => ((with_reducible refine (?_ : J _ _ _ _ (PySem.call (.ref 102) _) _)); refine J.ratio G R (by assumption) (by assumption) ?_; intro d_l t1_l t2_l)
  k_with "ra_MRat" => (with_reducible refine J.cmp2 ?_)
  repeat' (first | k_extra "ra_MRat" | k_extra "j")
  · intro h tk O K
    rw [radd_one (by assumption) (by assumption)] at hret
    exact hret _ _ _ _ _ K (fresh_of en.gs O.N (.head _) List.not_mem_nil) (O.N _ (.head _)).1
  · intro h tk O K
    rw [radd_rat fun q => absurd q.2 (by assumption)] at hret
    exact hret _ _ _ _ _ K (fresh_of en.gs O.N (.head _) List.not_mem_nil) (O.N _ (.head _)).1
  · intro h tk O K
    rw [radd_rat fun q => absurd q.1 (by assumption)] at hret
    exact hret _ _ _ _ _ K (fresh_of en.gs O.N (.head _) List.not_mem_nil) (O.N _ (.head _)).1
theorem mul_fn (G : Gd w mean mg mb hb) (kp : ∀ b o, hb.get? b = some o → s.heap.get? b = some o) (R : Room dp un 8) (a b : Addr) (x y : Int × Int) (t1 t2 u1 u2 : Tok)
    (ha : IsTup s.heap a #[.int x.1 t1, .int x.2 t2]) (hb' : IsTup s.heap b #[.int y.1 u1, .int y.2 u2])
    (x0 : x.2 ≠ 0) (y0 : y.2 ≠ 0) (l1 : x.1.natAbs < 2 ^ 2000) (l2 : x.2.natAbs < 2 ^ 2000) (l3 : y.1.natAbs < 2 ^ 2000) (l4 : y.2.natAbs < 2 ^ 2000)
    (hret : ∀ c t1 t2 h' tk', Keep [] s.heap h' → s.heap.get? c = none → h'.get? c = some (tupO [.int (rmul x y).1 t1, .int (rmul x y).2 t2]) → Q (.ref c) { s with heap := h', toks := tk' }) :
    wpAny (model PySem.Challenge.rw_sj0101_01.row.prog w) (AR dp un fr gd) (call (.ref 116) [.ref a, .ref b]) Q E s := by
  have X₀ := G.X
  revert X₀
  k_fill
  intro X₀
  clear X₀
  refine call_J (n := 7) [] [((Str.ofString "a"), .ref a), ((Str.ofString "b"), .ref b)] R G kp (fun _ h => nomatch h) .nil ?_
  intro c G R he en
  dsimp only [List.reverse, List.reverseAux]
  have ha : IsTup c.g a _ := ha.keeps fun b o e => en.gs b o List.not_mem_nil e
  have hb' : IsTup c.g b _ := hb'.keeps fun b o e => en.gs b o List.not_mem_nil e
  have m1 : IntMulOk x.1 y.1 := mulOk (k := 2000) l1 l3 (by decide) (by decide)
  have m3 : IntMulOk x.2 y.2 := mulOk (k := 2000) l2 l4 (by decide) (by decide)
  have m4 : x.2 * y.2 ≠ 0 := Int.mul_ne_zero x0 y0
  have m5 : Int.gcd (x.1 * y.1) (x.2 * y.2) < 2 ^ 9000 := Nat.lt_of_lt_of_le (gcd_lt m4 (mul_lt l2 l4)) (Nat.pow_le_pow_right (by decide) (by decide))
  k_with "ra_MRat" => (first | (with_reducible refine J.item1 (by assumption) ?_) | (with_reducible refine J.item0 (by assumption) ?_))
  k_with "ra_MRat" => ((with_reducible refine (?_ : J _ _ _ _ (PySem.call (.ref 102) _) _)); refine J.ratio G R (by assumption) (by assumption) ?_; intro d_l t1_l t2_l)
  k_with "ra_MRat" => (with_reducible refine J.cmp2 ?_)
  repeat' (first | k_extra "ra_MRat" | k_extra "j")
  · intro h tk O K
    rw [rmul_one (by assumption) (by assumption)] at hret
    exact hret _ _ _ _ _ K (fresh_of en.gs O.N (.head _) List.not_mem_nil) (O.N _ (.head _)).1
  · intro h tk O K
    rw [rmul_rat fun q => absurd q.2 (by assumption)] at hret
    exact hret _ _ _ _ _ K (fresh_of en.gs O.N (.head _) List.not_mem_nil) (O.N _ (.head _)).1
  · intro h tk O K
    rw [rmul_rat fun q => absurd q.1 (by assumption)] at hret
    exact hret _ _ _ _ _ K (fresh_of en.gs O.N (.head _) List.not_mem_nil) (O.N _ (.head _)).1
theorem is_whole_fn (G : Gd w mean mg mb hb) (kp : ∀ b o, hb.get? b = some o → s.heap.get? b = some o) (R : Room dp un 3) (a : Addr) (x : Int × Int) (t1 t2 : Tok)
    (ha : s.heap.get? a = some (tupO [.int x.1 t1, .int x.2 t2]))
    (hret : ∀ h' tk', Keep [] s.heap h' → Q (.bool (x.2 == 1)) { s with heap := h', toks := tk' }) :
    wpAny (model PySem.Challenge.rw_sj0101_01.row.prog w) (AR dp un fr gd) (call (.ref 123) [.ref a]) Q E s := by
  have X₀ := G.X
  revert X₀
  k_fill
  intro X₀
  clear X₀
  refine call_J (n := 2) [] [((Str.ofString "a"), .ref a)] R G kp (fun _ h => nomatch h) .nil ?_
  intro c G R he en
  dsimp only [List.reverse, List.reverseAux]
  have ha := en.gs _ _ List.not_mem_nil ha
  repeat' (first | k_extra "j")
  intro h tk O K
  exact hret _ _ K
end
end Mine


open PySem PySem.W PySem.Calls PyProof.Rows
set_option Elab.async false
set_option maxRecDepth 100000
set_option maxHeartbeats 1000000
namespace Mine
inductive Dt where
  | i (n : Int)
  | r (p q : Int)
  deriving DecidableEq
structure Tm where
  op : Str
  args : List Int
  sort : Int
  data : Dt
  deriving DecidableEq
noncomputable def Tm.wf (t : Tm) : Prop := match t.data with
  | .i _ => t.op ≠ Str.ofString "num"
  | .r _ _ => t.op = Str.ofString "num"
section
variable (prog : Program) (w : World)
noncomputable def IsDt (h : Heap) (d : Dt) (v : Value) : Prop := match d with
  | .i n => ∃ t, v = .int n t
  | .r p q => ∃ a, v = .ref a ∧ IsTupleKey (PySem.intKind prog w) h [p, q] a
noncomputable def IsTm (h : Heap) (t : Tm) (a : Addr) : Prop :=
  t.wf ∧ ∃ o items n, h.get? a = some o ∧ o.cls = .type "tuple" ∧ o.data = .seq items n ∧ ∃ t1 aT t2 dV, items.toList = [.str t.op t1, .ref aT, .int t.sort t2, dV] ∧ IsTupleKey (PySem.intKind prog w) h t.args aT ∧ IsDt prog w h t.data dV
noncomputable def dtHash (d : Dt) : Int := match d with
  | .i n => hashInt n
  | .r p q => tupleKeyHash (PySem.intKind prog w) [p, q]
noncomputable def dtDraws (d : Dt) : Nat := match d with
  | .i _ => 1
  | .r _ _ => 3
noncomputable def tmHash (t : Tm) : Int := reduceHash (Builtin.Tuple.tupleHashOf [hashStr w t.op, tupleKeyHash (PySem.intKind prog w) t.args, hashInt t.sort, dtHash prog w t.data])
noncomputable def tmDraws (t : Tm) : Nat := t.args.length + dtDraws t.data + 4
variable {prog} {w}
theorem tupleKey_keeps {h h' : Heap} {ks : List Int} {a : Addr} (x : IsTupleKey (PySem.intKind prog w) h ks a) (k : ∀ b o xs n, h.get? b = some o → o.cls = .type "tuple" → o.data = .seq xs n → h'.get? b = some o) : IsTupleKey (PySem.intKind prog w) h' ks a :=
  let ⟨o, items, n, ho, hc, hd, hi⟩ := x; ⟨o, items, n, k _ _ _ _ ho hc hd, hc, hd, hi⟩
theorem IsDt.keeps {h h' : Heap} {d : Dt} {v : Value} (x : IsDt prog w h d v) (k : ∀ b o xs n, h.get? b = some o → o.cls = .type "tuple" → o.data = .seq xs n → h'.get? b = some o) : IsDt prog w h' d v := by
  cases d with
  | i n => exact x
  | r p q => obtain ⟨a, e, y⟩ := x; exact ⟨a, e, tupleKey_keeps y k⟩
theorem IsTm.keeps {h h' : Heap} {t : Tm} {a : Addr} (x : IsTm prog w h t a) (k : ∀ b o xs n, h.get? b = some o → o.cls = .type "tuple" → o.data = .seq xs n → h'.get? b = some o) : IsTm prog w h' t a := by
  obtain ⟨wf, o, items, n, ho, hc, hd, t1, aT, t2, dV, hi, hA, hD⟩ := x
  exact ⟨wf, o, items, n, k _ _ _ _ ho hc hd, hc, hd, t1, aT, t2, dV, hi, tupleKey_keeps hA k, hD.keeps k⟩
theorem IsDt.inj {h : Heap} {x y : Dt} {v : Value} (hx : IsDt prog w h x v) (hy : IsDt prog w h y v) : x = y := by
  cases x <;> cases y
  · obtain ⟨t, e⟩ := hx; obtain ⟨u, e'⟩ := hy; rw [e] at e'; cases e'; rfl
  · obtain ⟨t, e⟩ := hx; obtain ⟨a, e', _⟩ := hy; rw [e] at e'; cases e'
  · obtain ⟨a, e, _⟩ := hx; obtain ⟨t, e'⟩ := hy; rw [e] at e'; cases e'
  · obtain ⟨a, e, z⟩ := hx; obtain ⟨b, e', z'⟩ := hy; rw [e] at e'; cases e'
    have := z.inj z'
    simp only [List.cons.injEq, and_true] at this
    rw [this.1, this.2]
theorem IsTm.inj {h : Heap} {a : Addr} {x y : Tm} (hx : IsTm prog w h x a) (hy : IsTm prog w h y a) : x = y := by
  obtain ⟨_, o, items, n, ho, hc, hd, t1, aT, t2, dV, hi, hA, hD⟩ := hx
  obtain ⟨_, o', items', n', ho', hc', hd', t1', aT', t2', dV', hi', hA', hD'⟩ := hy
  obtain rfl : o = o' := Option.some.inj (ho.symm.trans ho')
  rw [hd] at hd'
  injection hd' with e1 e2
  subst e1
  rw [hi] at hi'
  simp only [List.cons.injEq, Value.str.injEq, Value.ref.injEq, Value.int.injEq, and_true] at hi'
  obtain ⟨⟨e1, _⟩, e2, ⟨e3, _⟩, e4⟩ := hi'
  subst e2; subst e4
  have q1 := hA.inj hA'
  have q2 := hD.inj hD'
  obtain ⟨a, b, c, d⟩ := x
  obtain ⟨a', b', c', d'⟩ := y
  simp only at e1 e3 q1 q2
  subst e1; subst e3; subst q1; subst q2
  rfl
variable {A : Around} {E : Value → Shared → Prop} {s : Shared}
theorem pyHash_dt {d : Dt} {v : Value} {Q : Int → Shared → Prop} (hu : A.units < cLine) (hk : IsDt prog w s.heap d v) (h : Q (dtHash prog w d) { s with toks := s.toks + dtDraws d }) : wpAny (model prog w) A (pyHash v) Q E s := by
  cases d with
  | i n => obtain ⟨t, rfl⟩ := hk; exact (PySem.intKind prog w).pyHash (k := n) (by simp [PySem.intKind, Value.isInt]) h
  | r p q => obtain ⟨a, rfl, hk⟩ := hk; exact wpAny_pyHash_tuple hu hk h
theorem pyHash_tm {t : Tm} {a : Addr} {Q : Int → Shared → Prop} (hu : A.units + 1 < cLine) (hk : IsTm prog w s.heap t a) (h : Q (tmHash prog w t) { s with toks := s.toks + tmDraws t }) :
    wpAny (model prog w) A (pyHash (.ref a)) Q E s := by
  obtain ⟨_, o, items, n, ho, hc, hd, t1, aT, t2, dV, hi, hA, hD⟩ := hk
  have hT : s.TypeIs (.ref a) "tuple" := ⟨o, ho, hc⟩
  unfold pyHash
  unfold pyHashByItsType
  refine wpAny_bind (wpAny_cRoomFor_or (.inr (by lia)) ?_)
  refine wpAny_bind (wpAny_specialOf hT F.slot_tuple_hash.lookup ?_)
  show wpAny _ _ (if (some (Value.builtin "tuple.__hash__") == some Value.none) = true then _ else _) Q E s
  rw [if_neg (by rw [beq_builtin_none]; exact Bool.false_ne_true)]
  refine wpAny_bind (wpAny_specialOf hT F.slot_tuple_hash.lookup ?_)
  show wpAny _ _ (callSpecialIfBoundUnlessNone? (.ref a) "__hash__" _ >>= _) Q E s
  refine wpAny_bind (wpAny_callSpecialIfBoundUnlessNone?_slot hT F.slot_tuple_hash (wpAny_call_entry F.slot_tuple_hash hT F.entry_tuple_hash ?_ (F.args_tuple_hash_1 _)))
  show wpAny _ _ (Builtin.Tuple.tupleItemsOf (.ref a) >>= _) _ _ s
  refine wpAny_bind (wpAny_tupleItemsOf ho hd ?_)
  refine wpAny_bind ?_
  rw [← Array.forIn_toList, hi]
  simp only [List.forIn_cons, List.forIn_nil]
  refine wpAny_bind (wpAny_bind ((PySem.strKind prog w).pyHash (k := t.op) (by simp [PySem.strKind, Value.isStrOf]) ?_))
  refine wpAny_pure ?_
  dsimp only
  refine wpAny_bind (wpAny_bind (wpAny_pyHash_tuple (ks := t.args) (by show A.units + 1 < _; lia) hA ?_))
  refine wpAny_pure ?_
  dsimp only
  refine wpAny_bind (wpAny_bind ((PySem.intKind prog w).pyHash (k := t.sort) (by simp [PySem.intKind, Value.isInt]) ?_))
  refine wpAny_pure ?_
  dsimp only
  refine wpAny_bind (wpAny_bind (pyHash_dt (d := t.data) (by show A.units + 1 < _; lia) hD ?_))
  refine wpAny_pure ?_
  dsimp only
  refine wpAny_pure ?_
  refine wpAny_ret_mkInt ?_
  show wpAny _ _ (if (decide (-(2 : Int) ^ 63 ≤ Builtin.Tuple.tupleHashOf [hashStr w t.op, tupleKeyHash (PySem.intKind prog w) t.args, hashInt t.sort, dtHash prog w t.data]) && decide (Builtin.Tuple.tupleHashOf [hashStr w t.op, tupleKeyHash (PySem.intKind prog w) t.args, hashInt t.sort, dtHash prog w t.data] < 2 ^ 63)) = true then _ else _) Q E _
  have et : ∀ n, n + 1 + (t.args.length + 1) + 1 + dtDraws t.data + 1 = n + tmDraws t := by intro n; unfold tmDraws; lia
  unfold tmHash reduceHash at h
  by_cases hr : (decide (-(2 : Int) ^ 63 ≤ Builtin.Tuple.tupleHashOf [hashStr w t.op, tupleKeyHash (PySem.intKind prog w) t.args, hashInt t.sort, dtHash prog w t.data]) && decide (Builtin.Tuple.tupleHashOf [hashStr w t.op, tupleKeyHash (PySem.intKind prog w) t.args, hashInt t.sort, dtHash prog w t.data] < 2 ^ 63)) = true
  · rw [if_pos hr]
    rw [if_pos hr] at h
    exact wpAny_pure (by rw [et]; exact h)
  · rw [if_neg hr]
    rw [if_neg hr] at h
    exact wpAny_bind (wpAny_rule (wpAny_pure (by rw [et]; exact h)))
theorem eqBool_dt {x y : Dt} {u v : Value} {Q : Bool → Shared → Prop} (hu : A.units < cLine) (hx : IsDt prog w s.heap x u) (hy : IsDt prog w s.heap y v)
    (hk : (∃ n m, x = .i n ∧ y = .i m) ∨ ∃ p q p' q', x = .r p q ∧ y = .r p' q') (h : Q (decide (x = y)) s) : wpAny (model prog w) A (eqBool u v) Q E s := by
  rcases hk with ⟨n, m, rfl, rfl⟩ | ⟨p, q, p', q', rfl, rfl⟩
  · obtain ⟨t, rfl⟩ := hx
    obtain ⟨t', rfl⟩ := hy
    refine (PySem.intKind prog w).eqBool (a := n) (b := m) (by simp [PySem.intKind, Value.isInt]) (by simp [PySem.intKind, Value.isInt]) ?_
    have e : decide (Dt.i n = Dt.i m) = decide (n = m) := by simp
    rw [← e]; exact h
  · obtain ⟨a, rfl, hx⟩ := hx
    obtain ⟨b, rfl, hy⟩ := hy
    refine wpAny_eqBool_tuple hu hx hy ?_
    have e : decide (Dt.r p q = Dt.r p' q') = decide ([p, q] = [p', q']) := by simp
    rw [← e]; exact h
theorem kinds_of {x y : Tm} (hx : x.wf) (hy : y.wf) (e : x.op = y.op) : (∃ n m, x.data = .i n ∧ y.data = .i m) ∨ ∃ p q p' q', x.data = .r p q ∧ y.data = .r p' q' := by
  unfold Tm.wf at hx hy
  cases hd : x.data <;> cases hd' : y.data <;> rw [hd] at hx <;> rw [hd'] at hy
  · exact .inl ⟨_, _, rfl, rfl⟩
  · exact absurd (e.trans hy) hx
  · exact absurd (e.symm.trans hx) hy
  · exact .inr ⟨_, _, _, _, rfl, rfl⟩
theorem tm_ext {x y : Tm} (e1 : x.op = y.op) (e2 : x.args = y.args) (e3 : x.sort = y.sort) (e4 : x.data = y.data) : x = y := by
  cases x; cases y; simp_all
theorem tm_eq_tree {x y : Tm} {a b : Addr} {P : Fin → Shared → Prop} (hu : A.units < cLine) (hx : IsTm prog w s.heap x a) (hy : IsTm prog w s.heap y b) (h : P (.done (.ret (.bool (decide (x = y))))) s) :
    wpAny (model prog w) A (Builtin.«tuple.__eq__» ⟨[.ref a, .ref b], []⟩) P E s := by
  obtain ⟨wx, o, items, n, ho, hc, hd, t1, aT, t2, dV, hi, hA, hD⟩ := hx
  obtain ⟨wy, o', items', n', ho', hc', hd', t1', aT', t2', dV', hi', hA', hD'⟩ := hy
  have hTb : s.TypeIs (.ref b) "tuple" := ⟨o', ho', hc'⟩
  show wpAny _ _ (isInstance (.ref b) (.type "tuple") >>= _) _ _ s
  refine wpAny_bind (wpAny_isInstance hTb isSubtype_tuple_tuple ?_)
  simp only [Bool.not_true, Bool.false_eq_true, if_false]
  refine wpAny_bind (wpAny_tupleItemsOf ho hd ?_)
  refine wpAny_bind (wpAny_tupleItemsOf ho' hd' ?_)
  refine wpAny_bind ?_
  rw [hi, hi']
  have sz : (items.size == items'.size) = true := by
    have e1 : items.size = 4 := by rw [← Array.length_toList, hi]; rfl
    have e2 : items'.size = 4 := by rw [← Array.length_toList, hi']; rfl
    rw [e1, e2]; rfl
  simp only [List.zip_cons_cons, List.zip_nil_right, List.forIn_cons, List.forIn_nil]
  have no : x ≠ y → P (.done (.ret (.bool false))) s := fun e => by rw [decide_eq_false e] at h; exact h
  refine wpAny_bind (wpAny_bind ((PySem.strKind prog w).eqBool (a := x.op) (b := y.op) (by simp [PySem.strKind, Value.isStrOf]) (by simp [PySem.strKind, Value.isStrOf]) ?_))
  by_cases e1 : x.op = y.op
  · rw [decide_eq_true e1]
    simp only [Bool.not_true, Bool.false_eq_true, if_false]
    refine wpAny_pure ?_
    dsimp only
    refine wpAny_bind (wpAny_bind (wpAny_eqBool_tuple hu hA hA' ?_))
    by_cases e2 : x.args = y.args
    · rw [decide_eq_true e2]
      simp only [Bool.not_true, Bool.false_eq_true, if_false]
      refine wpAny_pure ?_
      dsimp only
      refine wpAny_bind (wpAny_bind ((PySem.intKind prog w).eqBool (a := x.sort) (b := y.sort) (by simp [PySem.intKind, Value.isInt]) (by simp [PySem.intKind, Value.isInt]) ?_))
      by_cases e3 : x.sort = y.sort
      · rw [decide_eq_true e3]
        simp only [Bool.not_true, Bool.false_eq_true, if_false]
        refine wpAny_pure ?_
        dsimp only
        refine wpAny_bind (wpAny_bind (eqBool_dt hu hD hD' (kinds_of wx wy e1) ?_))
        by_cases e4 : x.data = y.data
        · rw [decide_eq_true e4]
          simp only [Bool.not_true, Bool.false_eq_true, if_false]
          refine wpAny_pure ?_
          dsimp only
          refine wpAny_pure (wpAny_pure ?_)
          show P (.done (.ret (.bool (items.size == items'.size)))) s
          rw [sz]
          rw [decide_eq_true (tm_ext e1 e2 e3 e4)] at h
          exact h
        · rw [decide_eq_false e4]
          simp only [Bool.not_false, if_true]
          exact wpAny_bind (wpAny_pure (wpAny_pure (wpAny_pure (wpAny_pure (no fun e => e4 (by rw [e]))))))
      · rw [decide_eq_false e3]
        simp only [Bool.not_false, if_true]
        exact wpAny_bind (wpAny_pure (wpAny_pure (wpAny_pure (wpAny_pure (no fun e => e3 (by rw [e]))))))
    · rw [decide_eq_false e2]
      simp only [Bool.not_false, if_true]
      exact wpAny_bind (wpAny_pure (wpAny_pure (wpAny_pure (wpAny_pure (no fun e => e2 (by rw [e]))))))
  · rw [decide_eq_false e1]
    simp only [Bool.not_false, if_true]
    exact wpAny_bind (wpAny_pure (wpAny_pure (wpAny_pure (wpAny_pure (no fun e => e1 (by rw [e]))))))
theorem eqBool_tm {x y : Tm} {a b : Addr} {Q : Bool → Shared → Prop} (hu : A.units + 2 < cLine) (hx : IsTm prog w s.heap x a) (hy : IsTm prog w s.heap y b) (h : Q (decide (x = y)) s) :
    wpAny (model prog w) A (eqBool (.ref a) (.ref b)) Q E s := by
  have hTa : s.TypeIs (.ref a) "tuple" := by obtain ⟨_, o, items, n, ho, hc, _⟩ := hx; exact ⟨o, ho, hc⟩
  have hTb : s.TypeIs (.ref b) "tuple" := by obtain ⟨_, o, items, n, ho, hc, _⟩ := hy; exact ⟨o, ho, hc⟩
  unfold eqBool
  try with_reducible refine wpAny_holding ?_
  show wpAny _ _ (if (Value.ref a == Value.ref b) = true then _ else _) Q E s
  by_cases hab : (Value.ref a == Value.ref b) = true
  · rw [if_pos hab]
    have e : a = b := by have := eq_of_beq hab; injection this
    subst e
    obtain rfl := hx.inj hy
    exact wpAny_bind (wpAny_rule (wpAny_pure (by simpa using h)))
  · rw [if_neg hab]
    exact wpAny_bind (wpAny_richCompare_same_room (op := .Eq) hTa hTb F.slot_tuple_eq
      (wpAny_call_entry F.slot_tuple_eq hTa F.entry_tuple_eq (tm_eq_tree (by show A.units + 1 < _; lia) hx hy ⟨_, rfl, (fun e => nomatch e), wpAny_truthy_bool h⟩) (F.args_tuple_eq_2 _ _)) (by lia))
theorem quiet_ints {d : Nat} {ks : List Int} {a : Addr} {Q : Bool → Shared → Prop} (hk : IsTupleKey (PySem.intKind prog w) s.heap ks a) (h : Q true s) : wpAny (model prog w) A (eqIsQuiet (d + 1) (.ref a)) Q E s := by
  have hT := hk.typeIs
  obtain ⟨o, items, n, ho, _, hd, hi⟩ := hk
  unfold eqIsQuiet
  refine wpAny_bind (wpAny_specialOf hT F.slot_tuple_eq.lookup ?_)
  show wpAny _ _ (isInstance (.ref a) (.type "tuple") >>= _) _ _ s
  refine wpAny_bind (wpAny_isInstance hT isSubtype_tuple_tuple ?_)
  simp only [Bool.not_true, Bool.false_eq_true, if_false]
  refine wpAny_bind (wpAny_seqItems ho hd ?_)
  refine wpAny_bind ?_
  show wpAny _ _ (forIn items _ _) _ _ s
  rw [← Array.forIn_toList]
  refine wpAny_forIn_list _ (fun rest r s' => r.1 = none ∧ s' = s ∧ ∀ v ∈ rest, carriedByValue v = true) _ ?_ ?_ _ _ ⟨rfl, rfl, hi.byValue⟩
  · rintro v rest r s' ⟨hr, rfl, hall⟩
    rw [eqIsQuiet_byValue _ (hall v List.mem_cons_self)]
    refine wpAny_bind (wpAny_pure ?_)
    simp only [Bool.not_true, Bool.false_eq_true, if_false]
    exact wpAny_pure ⟨rfl, rfl, fun u hu' => hall u (List.mem_cons_of_mem _ hu')⟩
  · rintro ⟨r1, r2⟩ s' ⟨hr, rfl, _⟩
    simp only at hr
    subst hr
    exact wpAny_pure h
theorem quiet_dt {dp : Nat} {d : Dt} {v : Value} {Q : Bool → Shared → Prop} (hk : IsDt prog w s.heap d v) (h : Q true s) : wpAny (model prog w) A (eqIsQuiet (dp + 1) v) Q E s := by
  cases d with
  | i n => obtain ⟨t, rfl⟩ := hk; rw [eqIsQuiet_byValue _ rfl]; exact wpAny_pure h
  | r p q => obtain ⟨a, rfl, hk⟩ := hk; exact quiet_ints hk h
theorem quiet_tm {t : Tm} {a : Addr} {Q : Bool → Shared → Prop} (hk : IsTm prog w s.heap t a) (h : Q true s) : wpAny (model prog w) A (eqIsQuiet 8 (.ref a)) Q E s := by
  obtain ⟨_, o, items, n, ho, hc, hd, t1, aT, t2, dV, hi, hA, hD⟩ := hk
  have hT : s.TypeIs (.ref a) "tuple" := ⟨o, ho, hc⟩
  unfold eqIsQuiet
  refine wpAny_bind (wpAny_specialOf hT F.slot_tuple_eq.lookup ?_)
  show wpAny _ _ (isInstance (.ref a) (.type "tuple") >>= _) _ _ s
  refine wpAny_bind (wpAny_isInstance hT isSubtype_tuple_tuple ?_)
  simp only [Bool.not_true, Bool.false_eq_true, if_false]
  refine wpAny_bind (wpAny_seqItems ho hd ?_)
  refine wpAny_bind ?_
  show wpAny _ _ (forIn items _ _) _ _ s
  rw [← Array.forIn_toList, hi]
  simp only [List.forIn_cons, List.forIn_nil]
  rw [eqIsQuiet_byValue (v := Value.str t.op t1) _ rfl, eqIsQuiet_byValue (v := Value.int t.sort t2) _ rfl]
  refine wpAny_bind (wpAny_bind (wpAny_pure ?_))
  simp only [Bool.not_true, Bool.false_eq_true, if_false]
  refine wpAny_pure ?_
  dsimp only
  refine wpAny_bind (wpAny_bind (quiet_ints hA ?_))
  simp only [Bool.not_true, Bool.false_eq_true, if_false]
  refine wpAny_pure ?_
  dsimp only
  refine wpAny_bind (wpAny_bind (wpAny_pure ?_))
  simp only [Bool.not_true, Bool.false_eq_true, if_false]
  refine wpAny_pure ?_
  dsimp only
  refine wpAny_bind (wpAny_bind (quiet_dt hD ?_))
  simp only [Bool.not_true, Bool.false_eq_true, if_false]
  refine wpAny_pure ?_
  dsimp only
  exact wpAny_pure (wpAny_pure h)
end
noncomputable def tmKind (prog : Program) (w : World) : HeapKind prog w Tm where
  is := IsTm prog w
  hash := tmHash prog w
  draws := tmDraws
  room := fun A => A.units + 2 < cLine
  inj := fun hx hy => hx.inj hy
  keeps := fun {_ _ _ _ d _ _ _} x ho hd hs => x.keeps fun b o xs n e hc he => by
    by_cases q : b = d
    · subst q
      rw [ho] at e
      cases e
      rw [hd] at he
      cases he
    · exact (hs.2 b q).trans e
  pyHash := fun hu hk h => pyHash_tm (by lia) hk h
  eqBool := fun hu hx hy h => eqBool_tm hu hx hy h
  quiet := fun hk h => quiet_tm hk h
end Mine

open PySem PySem.W PySem.Calls PyProof.Rows
set_option Elab.async false
set_option maxRecDepth 100000
set_option maxHeartbeats 4000000
namespace Mine
set_option genInjectivity false in
set_option genSizeOf false in
structure Wd where
  dA : Nat
  bA : Nat
  snA : Nat
  swA : Nat
  fnA : Nat
  faA : Nat
  frA : Nat
  oA : Nat
  aA : Nat
  soA : Nat
  daA : Nat
  nA : Nat
  bvA : Nat
  tk : Nat → Tok
structure Wd.Ok (W : Wd) : Prop where
  lo : 100 < W.dA
  o1 : W.dA < W.bA
  o2 : W.bA < W.snA
  o3 : W.snA < W.swA
  o4 : W.swA < W.fnA
  o5 : W.fnA < W.faA
  o6 : W.faA < W.frA
  o7 : W.frA < W.oA
  o8 : W.oA < W.aA
  o9 : W.aA < W.soA
  o10 : W.soA < W.daA
  o11 : W.daA < W.nA
noncomputable def Wd.core (W : Wd) : List Addr := [W.oA, W.aA, W.soA, W.daA, W.nA]
noncomputable def Wd.bank (W : Wd) : List Addr := [W.dA, W.bA, W.oA, W.aA, W.soA, W.daA, W.nA]
structure TmAt (w : World) (h : Heap) (t : Tm) (o a s d : Value) : Prop where
  op : ∃ tk, o = .str t.op tk
  ar : ∃ aT, a = .ref aT ∧ IsTupleKey (PySem.intKind PR w) h t.args aT
  so : ∃ tk, s = .int t.sort tk
  da : IsDt PR w h t.data d
structure CoreAt (w : World) (W : Wd) (ts : List Tm) (os as ss ds : Array Value) (n1 n2 n3 n4 : Nat) (es : List DictEntry) (ep : Nat) (xs : List (Tm × Addr × Value)) (h : Heap) : Prop where
  ops : h.get? W.oA = some (lsO os n1)
  args : h.get? W.aA = some (lsO as n2)
  sorts : h.get? W.soA = some (lsO ss n3)
  datas : h.get? W.daA = some (lsO ds n4)
  nums : h.get? W.nA = some (dictOf es ep)
  ents : es = xs.map (entryOfKey (tmKind PR w))
  keys : ∀ x ∈ xs, IsTm PR w h x.1 x.2.1
  nd : (xs.map (·.1)).Nodup
  s1 : os.size = ts.length
  s2 : as.size = ts.length
  s3 : ss.size = ts.length
  s4 : ds.size = ts.length
  at_ : ∀ (i : Nat) (t : Tm), ts[i]? = some t → ∃ o a s d, os[i]? = some o ∧ as[i]? = some a ∧ ss[i]? = some s ∧ ds[i]? = some d ∧ TmAt w h t o a s d
  len : xs.length + 1 = ts.length
  nums' : ∀ (i : Nat) (x : Tm × Addr × Value), xs[i]? = some x → ts[i + 1]? = some x.1 ∧ ∃ tk, x.2.2 = .int ((i + 1 : Nat) : Int) tk
noncomputable def Core (w : World) (W : Wd) (ts : List Tm) (h : Heap) : Prop :=
  ∃ os as ss ds n1 n2 n3 n4 es ep xs, CoreAt w W ts os as ss ds n1 n2 n3 n4 es ep xs h
noncomputable def TupKeep (h h' : Heap) : Prop := ∀ b o xs n, h.get? b = some o → o.cls = .type "tuple" → o.data = .seq xs n → h'.get? b = some o
theorem TupKeep.trans {h₁ h₂ h₃ : Heap} (a : TupKeep h₁ h₂) (b : TupKeep h₂ h₃) : TupKeep h₁ h₃ := fun x o xs n e c d => b x o xs n (a x o xs n e c d) c d
theorem TupKeep.of_keep {D : List (Addr × Obj)} {h h' : Heap} (k : Keep (D.map (·.1)) h h') (hD : ∀ p ∈ D, h.get? p.1 = some p.2 ∧ p.2.cls ≠ .type "tuple") : TupKeep h h' := by
  intro b o xs n e hc hd
  refine k b o (fun q => ?_) e
  obtain ⟨p, hp, rfl⟩ := List.mem_map.mp q
  obtain ⟨h1, h2⟩ := hD p hp
  rw [h1] at e
  cases e
  exact h2 hc
theorem TupKeep.of_all {h h' : Heap} (k : ∀ b o, h.get? b = some o → h'.get? b = some o) : TupKeep h h' := fun b o _ _ e _ _ => k b o e
theorem TmAt.keeps {w : World} {h h' : Heap} {t : Tm} {o a s d : Value} (x : TmAt w h t o a s d) (k : TupKeep h h') : TmAt w h' t o a s d :=
  ⟨x.op, let ⟨aT, e, y⟩ := x.ar; ⟨aT, e, tupleKey_keeps y k⟩, x.so, x.da.keeps k⟩
theorem atKey_some {K : Type} [DecidableEq K] {xs : List (K × Addr × Value)} {k : K} {p : Addr × Value} (h : atKey xs k = some p) : ∃ i : Nat, xs[i]? = some (k, p) := by
  unfold atKey at h
  obtain ⟨x, hx, rfl⟩ := Option.map_eq_some_iff.mp h
  have hm := List.mem_of_find?_eq_some hx
  have hk := List.find?_some hx
  simp only [decide_eq_true_eq] at hk
  obtain ⟨i, hi⟩ := List.mem_iff_getElem?.mp hm
  exact ⟨i, by rw [hi, ← hk]⟩
theorem atKey_none {K : Type} [DecidableEq K] {xs : List (K × Addr × Value)} {k : K} (h : atKey xs k = none) : k ∉ xs.map (·.1) := by
  unfold atKey at h
  rw [Option.map_eq_none_iff, List.find?_eq_none] at h
  intro hm
  obtain ⟨x, hx, rfl⟩ := List.mem_map.mp hm
  exact h x hx (by simp)
noncomputable def Mk (ts : List Tm) (t : Tm) (ts' : List Tm) (k : Nat) : Prop :=
  (ts' = ts ∧ 1 ≤ k ∧ ts[k]? = some t) ∨ ((∀ i, 1 ≤ i → ts[i]? ≠ some t) ∧ ts' = ts ++ [t] ∧ k = ts.length)
theorem CoreAt.keeps0 {w : World} {W : Wd} {ts : List Tm} {os as ss ds : Array Value} {n1 n2 n3 n4 : Nat} {es : List DictEntry} {ep : Nat} {xs : List (Tm × Addr × Value)} {h h' : Heap}
    (C : CoreAt w W ts os as ss ds n1 n2 n3 n4 es ep xs h) (k : ∀ b o, h.get? b = some o → h'.get? b = some o) : CoreAt w W ts os as ss ds n1 n2 n3 n4 es ep xs h' where
  ops := k _ _ C.ops
  args := k _ _ C.args
  sorts := k _ _ C.sorts
  datas := k _ _ C.datas
  nums := k _ _ C.nums
  ents := C.ents
  keys := fun x hx => (C.keys x hx).keeps (TupKeep.of_all k)
  nd := C.nd
  s1 := C.s1
  s2 := C.s2
  s3 := C.s3
  s4 := C.s4
  at_ := fun i t e => let ⟨o, a, s, d, q1, q2, q3, q4, z⟩ := C.at_ i t e; ⟨o, a, s, d, q1, q2, q3, q4, z.keeps (TupKeep.of_all k)⟩
  len := C.len
  nums' := C.nums'
theorem CoreAt.add {w : World} {W : Wd} {ts : List Tm} {os as ss ds : Array Value} {n1 n2 n3 n4 : Nat} {es es' : List DictEntry} {ep ep' : Nat} {xs : List (Tm × Addr × Value)} {h h' : Heap} {t : Tm} {o a s d : Value} {kA : Addr} {tk : Tok}
    (C : CoreAt w W ts os as ss ds n1 n2 n3 n4 es ep xs h) (k : TupKeep h h') (z : TmAt w h' t o a s d) (hk : IsTm PR w h' t kA)
    (e1 : h'.get? W.oA = some (lsO (os.push o) (n1 + 1))) (e2 : h'.get? W.aA = some (lsO (as.push a) (n2 + 1))) (e3 : h'.get? W.soA = some (lsO (ss.push s) (n3 + 1))) (e4 : h'.get? W.daA = some (lsO (ds.push d) (n4 + 1)))
    (e5 : h'.get? W.nA = some (dictOf es' ep')) (e6 : es' = (xs ++ [(t, kA, Value.int (ts.length : Int) tk)]).map (entryOfKey (tmKind PR w))) (hn : t ∉ xs.map (·.1)) :
    CoreAt w W (ts ++ [t]) (os.push o) (as.push a) (ss.push s) (ds.push d) (n1 + 1) (n2 + 1) (n3 + 1) (n4 + 1) es' ep' (xs ++ [(t, kA, Value.int (ts.length : Int) tk)]) h' where
  ops := e1
  args := e2
  sorts := e3
  datas := e4
  nums := e5
  ents := e6
  keys := by
    intro x hx
    rcases List.mem_append.mp hx with hx | hx
    · exact (C.keys x hx).keeps k
    · simp only [List.mem_singleton] at hx
      subst hx; exact hk
  nd := by
    rw [List.map_append, List.nodup_append]
    refine ⟨C.nd, by simp, ?_⟩
    intro x hx y hy
    simp only [List.map_cons, List.map_nil, List.mem_singleton] at hy
    subst hy
    exact fun e => hn (e ▸ hx)
  s1 := by rw [Array.size_push, C.s1]; simp
  s2 := by rw [Array.size_push, C.s2]; simp
  s3 := by rw [Array.size_push, C.s3]; simp
  s4 := by rw [Array.size_push, C.s4]; simp
  at_ := by
    intro i t' e
    by_cases hi : i < ts.length
    · rw [List.getElem?_append_left hi] at e
      obtain ⟨o', a', s', d', q1, q2, q3, q4, y⟩ := C.at_ i t' e
      have h1 := C.s1; have h2 := C.s2; have h3 := C.s3; have h4 := C.s4
      refine ⟨o', a', s', d', ?_, ?_, ?_, ?_, y.keeps k⟩
      · rw [Array.getElem?_push, if_neg (by lia)]; exact q1
      · rw [Array.getElem?_push, if_neg (by lia)]; exact q2
      · rw [Array.getElem?_push, if_neg (by lia)]; exact q3
      · rw [Array.getElem?_push, if_neg (by lia)]; exact q4
    · have hi' : i = ts.length := by
        have := (List.getElem?_eq_some_iff.mp e).1
        simp only [List.length_append, List.length_cons, List.length_nil] at this
        lia
      subst hi'
      simp only [List.getElem?_append_right (Nat.le_refl _), Nat.sub_self, List.getElem?_cons_zero, Option.some.injEq] at e
      subst e
      refine ⟨o, a, s, d, ?_, ?_, ?_, ?_, z⟩
      · rw [← C.s1, Array.getElem?_push, if_pos rfl]
      · rw [← C.s2, Array.getElem?_push, if_pos rfl]
      · rw [← C.s3, Array.getElem?_push, if_pos rfl]
      · rw [← C.s4, Array.getElem?_push, if_pos rfl]
  len := by simp only [List.length_append, List.length_cons, List.length_nil]; have := C.len; lia
  nums' := by
    intro i x hx
    by_cases hi : i < xs.length
    · rw [List.getElem?_append_left hi] at hx
      obtain ⟨q1, q2⟩ := C.nums' i x hx
      exact ⟨by rw [List.getElem?_append_left (by have := C.len; lia)]; exact q1, q2⟩
    · have hi' : i = xs.length := by
        have := (List.getElem?_eq_some_iff.mp hx).1
        simp only [List.length_append, List.length_cons, List.length_nil] at this
        lia
      subst hi'
      simp only [List.getElem?_append_right (Nat.le_refl _), Nat.sub_self, List.getElem?_cons_zero, Option.some.injEq] at hx
      subst hx
      have hl := C.len
      refine ⟨?_, tk, ?_⟩
      · rw [hl]; simp
      · rw [hl]
theorem CoreAt.found {w : World} {W : Wd} {ts : List Tm} {os as ss ds : Array Value} {n1 n2 n3 n4 : Nat} {es : List DictEntry} {ep : Nat} {xs : List (Tm × Addr × Value)} {h : Heap} {t : Tm} {p : Addr × Value}
    (C : CoreAt w W ts os as ss ds n1 n2 n3 n4 es ep xs h) (e : atKey xs t = some p) : ∃ (k : Nat) (tk : Tok), p.2 = .int (k : Int) tk ∧ 1 ≤ k ∧ ts[k]? = some t := by
  obtain ⟨i, hi⟩ := atKey_some e
  obtain ⟨q1, tk, q2⟩ := C.nums' i _ hi
  exact ⟨i + 1, tk, q2, by lia, q1⟩
theorem CoreAt.notFound {w : World} {W : Wd} {ts : List Tm} {os as ss ds : Array Value} {n1 n2 n3 n4 : Nat} {es : List DictEntry} {ep : Nat} {xs : List (Tm × Addr × Value)} {h : Heap} {t : Tm}
    (C : CoreAt w W ts os as ss ds n1 n2 n3 n4 es ep xs h) (e : atKey xs t = none) : ∀ i, 1 ≤ i → ts[i]? ≠ some t := by
  intro i hi hq
  have hl := C.len
  have hlt := (List.getElem?_eq_some_iff.mp hq).1
  have hx : i - 1 < xs.length := by lia
  obtain ⟨q1, _⟩ := C.nums' (i - 1) xs[i - 1] (List.getElem?_eq_getElem hx)
  rw [show i - 1 + 1 = i by lia, hq] at q1
  have := Option.some.inj q1
  exact atKey_none e (List.mem_map.mpr ⟨xs[i - 1], List.getElem_mem hx, this.symm⟩)
end Mine

open PySem PySem.W PySem.Calls PyProof.Rows
set_option Elab.async false
set_option linter.all false
set_option maxRecDepth 100000
set_option maxHeartbeats 400000
namespace Mine
theorem tm_at {w : World} {h : Heap} {t : Tm} {kA aT : Addr} {t1 t2 : Tok} {dV : Value} (wf : t.wf) (hk : h.get? kA = some (tupO [.str t.op t1, .ref aT, .int t.sort t2, dV])) (ha : IsTupleKey (PySem.intKind PR w) h t.args aT) (hd : IsDt PR w h t.data dV) : IsTm PR w h t kA :=
  ⟨wf, _, _, _, hk, rfl, rfl, t1, aT, t2, dV, rfl, ha, hd⟩
section
variable {w : World} {A : Around} {s : Shared} {E : Value → Shared → Prop} {g : Heap} {L : Addr} {m : Str → Option Value} {news : List (Addr × Obj)} {nA kA aT : Addr} {es : List DictEntry} {ep : Nat} {xs : List (Tm × Addr × Value)} {t : Tm} {t1 t2 : Tok} {dV dflt : Value}
theorem dictH_at (F : Fr g L s.heap m) (N : News g L s.heap news) (hp : (nA, dictOf es ep) ∈ news) (en : es = xs.map (entryOfKey (tmKind PR w))) (Kg : ∀ x ∈ xs, IsTm PR w g x.1 x.2.1) (nd : (xs.map (·.1)).Nodup) : s.heap.DictOfH (tmKind PR w) nA xs :=
  ⟨_, _, ep, (N _ hp).1, ⟨rfl, rfl, rfl⟩, rfl, by simpa using en, fun x hx => (Kg x hx).keeps (TupKeep.of_all F.keep), nd⟩
theorem dict_type (N : News g L s.heap news) (hp : (nA, dictOf es ep) ∈ news) : s.TypeIs (.ref nA) "dict" := ⟨_, (N _ hp).1, rfl⟩
theorem dict_noDict (N : News g L s.heap news) (hp : (nA, dictOf es ep) ∈ news) : ∀ b, Value.ref nA = .ref b → ∃ ob, s.heap.get? b = some ob ∧ ob.dict = none := fun b e => by
  injection e with e; subst e; exact ⟨_, (N _ hp).1, rfl⟩
theorem line_method {pl : Sem Bool} {Q : Value × List Value → Shared → Prop} (N : News g L s.heap news) (hp : (nA, dictOf es ep) ∈ news) (h : Q (.builtin "dict.get", [.ref nA]) s) : wpAny (model PR w) A (getMethod (.ref nA) "get" pl) Q E s :=
  getMethod_builtin (dict_type N hp) PySem.F.plainAttrs_dict PySem.F.slot_dict_get PySem.F.type_dict_get (dict_noDict N hp) h
theorem line_get {Q : Value → Shared → Prop} (hu : A.units + 3 < cLine) (F : Fr g L s.heap m) (N : News g L s.heap news) (hp : (nA, dictOf es ep) ∈ news) (hk : (kA, tupO [.str t.op t1, .ref aT, .int t.sort t2, dV]) ∈ news)
    (en : es = xs.map (entryOfKey (tmKind PR w))) (Kg : ∀ x ∈ xs, IsTm PR w g x.1 x.2.1) (nd : (xs.map (·.1)).Nodup) (wf : t.wf) (Ag : IsTupleKey (PySem.intKind PR w) g t.args aT) (Dg : IsDt PR w g t.data dV) (lo : (nA == sysModules) = false)
    (x : Option Value) (hx : (atKey xs t).map (·.2) = x) (h : ∀ tk', Q (x.getD dflt) { s with toks := tk' }) : wpAny (model PR w) A (call (.builtin "dict.get") [.ref nA, .ref kA, dflt]) Q E s :=
  have hm := dictH_at F N hp en Kg nd
  call_meetsIn PySem.F.slot_dict_get hm.typeIs PySem.F.entry_dict_get (PySem.F.args_dict_get_3 _ _ _) (meetsH_dict_get_default (tmKind PR w) nA kA lo dflt)
    ⟨by show A.units + 1 + 2 < _; lia, t, xs, tm_at wf (N _ hk).1 (tupleKey_keeps Ag (TupKeep.of_all F.keep)) (Dg.keeps (TupKeep.of_all F.keep)), hm, by rw [hx]; exact h _⟩
theorem line_set {v : Value} {gg : Obj → List (Addr × Obj)} {Q : Unit → Shared → Prop} (hu : A.units + 3 < cLine) (F : Fr g L s.heap m) (N : News g L s.heap news) (U : UpdF nA (dictOf es ep) news gg) (hk : (kA, tupO [.str t.op t1, .ref aT, .int t.sort t2, dV]) ∈ news)
    (en : es = xs.map (entryOfKey (tmKind PR w))) (Kg : ∀ x ∈ xs, IsTm PR w g x.1 x.2.1) (nd : (xs.map (·.1)).Nodup) (wf : t.wf) (Ag : IsTupleKey (PySem.intKind PR w) g t.args aT) (Dg : IsDt PR w g t.data dV)
    (hx : atKey xs t = none) (hz : xs.length ≤ 1000) (h : ∀ h' tk' ep', Fr g L h' m → News g L h' (gg (dictOf ((xs ++ [(t, kA, v)]).map (entryOfKey (tmKind PR w))) ep')) → Q () { s with heap := h', toks := tk' }) :
    wpAny (model PR w) A (setItem (.ref nA) (.ref kA) v) Q E s := by
  obtain ⟨pre, post, rfl, hg, a, b⟩ := U.split
  have hm := N (nA, dictOf es ep) (List.mem_append_right _ (.head _))
  have hD := dictH_at F N (List.mem_append_right _ (.head _)) en Kg nd
  refine wpAny_setItem_heap (hsz := by rw [sizeLine_eq]; lia) (by show A.units + 1 + 2 < _; lia) (tm_at wf (N _ hk).1 (tupleKey_keeps Ag (TupKeep.of_all F.keep)) (Dg.keeps (TupKeep.of_all F.keep))) hD fun h' hmm hs => ?_
  rw [storedH_new hx] at hmm
  obtain ⟨o', es', ep', ho', hc', hd', he', _, _⟩ := hmm
  have eo : o' = dictOf ((xs ++ [(t, kA, v)]).map (entryOfKey (tmKind PR w))) ep' := by
    obtain ⟨c1, c2, c3⟩ := hc'
    obtain ⟨c, d, dt, sl⟩ := o'
    simp only at c1 c2 c3 hd'
    subst c1; subst c2; subst c3; subst hd'
    rw [← he']
  subst eo
  exact h h' _ ep' (F.change hs hm.2.1 hm.2.2) (hg _ ▸ N.setIn a b hs ho')
end
noncomputable def AscF (a : Nat) : Led → Prop
  | [] => True
  | p :: r => a < p.1 ∧ AscF p.1 r
theorem AscF.low {l : Led} : ∀ {a : Nat}, AscF a l → ∀ q ∈ l, a < q.1 := by
  induction l with
  | nil => intro a _ q hq; cases hq
  | cons p r ih =>
    intro a h q hq
    rcases List.mem_cons.mp hq with e | hq
    · rw [e]; exact h.1
    · exact Nat.lt_trans h.1 (ih h.2 q hq)
theorem AscF.nd {l : Led} : ∀ {a : Nat}, AscF a l → Nd l := by
  induction l with
  | nil => intro a _; exact .nil
  | cons p r ih => intro a h; exact List.pairwise_cons.mpr ⟨fun x hx => Nat.ne_of_lt (AscF.low h.2 x hx), ih h.2⟩
theorem Wd.Ok.bo {W : Wd} (k : W.Ok) : @LT.lt Nat _ W.bA W.oA := Nat.lt_trans k.o2 (Nat.lt_trans k.o3 (Nat.lt_trans k.o4 (Nat.lt_trans k.o5 (Nat.lt_trans k.o6 k.o7))))
theorem Wd.Ok.nd {W : Wd} (k : W.Ok) {a b c d e f g : Obj} : Nd [(W.dA, a), (W.bA, b), (W.oA, c), (W.aA, d), (W.soA, e), (W.daA, f), (W.nA, g)] := AscF.nd (a := 100) ⟨k.lo, k.o1, k.bo, k.o8, k.o9, k.o10, k.o11, trivial⟩
theorem Wd.Ok.nA1 {W : Wd} (k : W.Ok) : (W.nA == sysModules) = false := by
  rw [beq_eq_false_iff_ne]
  have : @LT.lt Nat _ 100 W.nA := Nat.lt_trans k.lo (Nat.lt_trans k.o1 (Nat.lt_trans k.bo (Nat.lt_trans k.o8 (Nat.lt_trans k.o9 (Nat.lt_trans k.o10 k.o11)))))
  exact fun e => by rw [e] at this; exact absurd this (by decide)
theorem Wd.Ok.hiB {W : Wd} (k : W.Ok) : ∀ a ∈ W.core, @LT.lt Nat _ W.bA a := by
  have h1 := k.bo
  have h2 := Nat.lt_trans h1 k.o8
  have h3 := Nat.lt_trans h2 k.o9
  have h4 := Nat.lt_trans h3 k.o10
  have h5 := Nat.lt_trans h4 k.o11
  intro a ha
  simp only [Wd.core, List.mem_cons, List.not_mem_nil, or_false] at ha
  rcases ha with rfl | rfl | rfl | rfl | rfl <;> assumption
theorem Wd.Ok.bN {W : Wd} (k : W.Ok) : W.bA ∉ W.core := fun h => Nat.lt_irrefl _ (k.hiB _ h)
theorem Wd.Ok.dN {W : Wd} (k : W.Ok) : W.dA ∉ W.core := fun h => Nat.lt_asymm k.o1 (k.hiB _ h)
theorem Wd.core_bank {W : Wd} : ∀ a ∈ W.core, a ∈ W.bank := by
  intro a ha
  simp only [Wd.core, Wd.bank, List.mem_cons, List.not_mem_nil, or_false] at ha ⊢
  rcases ha with rfl | rfl | rfl | rfl | rfl <;> simp
theorem Ent.tup {c : Cx} {sh hb : Heap} {D : Led} (en : Ent c sh hb D) (hD : ∀ p ∈ D, sh.get? p.1 = some p.2 ∧ hb.get? p.1 = none) (hc : ∀ p ∈ D, p.2.cls ≠ .type "tuple") : TupKeep sh c.g :=
  TupKeep.of_keep (D := D) (fun b o n e => en.gs b o n e) fun p hp => ⟨(hD p hp).1, hc p hp⟩
theorem all7 {q : Addr × Obj → Prop} {a b c d e f g : Addr × Obj} (h1 : q a) (h2 : q b) (h3 : q c) (h4 : q d) (h5 : q e) (h6 : q f) (h7 : q g) : ∀ p ∈ [a, b, c, d, e, f, g], q p :=
  List.forall_mem_cons.mpr ⟨h1, List.forall_mem_cons.mpr ⟨h2, List.forall_mem_cons.mpr ⟨h3, List.forall_mem_cons.mpr ⟨h4, List.forall_mem_cons.mpr ⟨h5, List.forall_mem_cons.mpr ⟨h6, List.forall_mem_cons.mpr ⟨h7, List.forall_mem_nil _⟩⟩⟩⟩⟩⟩⟩
theorem Wd.mem {W : Wd} : W.dA ∈ W.bank ∧ W.bA ∈ W.bank ∧ W.oA ∈ W.bank ∧ W.aA ∈ W.bank ∧ W.soA ∈ W.bank ∧ W.daA ∈ W.bank ∧ W.nA ∈ W.bank := by simp [Wd.bank]
theorem Wd.memC {W : Wd} : W.oA ∈ W.core ∧ W.aA ∈ W.core ∧ W.soA ∈ W.core ∧ W.daA ∈ W.core ∧ W.nA ∈ W.core := by simp [Wd.core]
theorem CoreAt.ND {w : World} {W : Wd} {ts : List Tm} {os as ss ds : Array Value} {n1 n2 n3 n4 : Nat} {es bes : List DictEntry} {ep ne : Nat} {xs : List (Tm × Addr × Value)} {sh hb : Heap} (C : CoreAt w W ts os as ss ds n1 n2 n3 n4 es ep xs sh)
    (hB : sh.get? W.bA = some (instObj 656 W.dA)) (hD : sh.get? W.dA = some (dictOf bes ne)) (hhi : ∀ a ∈ W.bank, hb.get? a = none) :
    ∀ p ∈ [(W.dA, dictOf bes ne), (W.bA, instObj 656 W.dA), (W.oA, lsO os n1), (W.aA, lsO as n2), (W.soA, lsO ss n3), (W.daA, lsO ds n4), (W.nA, dictOf es ep)], sh.get? p.1 = some p.2 ∧ hb.get? p.1 = none :=
  have m := @Wd.mem W
  all7 ⟨hD, hhi _ m.1⟩ ⟨hB, hhi _ m.2.1⟩ ⟨C.ops, hhi _ m.2.2.1⟩ ⟨C.args, hhi _ m.2.2.2.1⟩ ⟨C.sorts, hhi _ m.2.2.2.2.1⟩ ⟨C.datas, hhi _ m.2.2.2.2.2.1⟩ ⟨C.nums, hhi _ m.2.2.2.2.2.2⟩
theorem Core.cases {w : World} {W : Wd} {ts : List Tm} {h : Heap} {p : Prop} (C : Core w W ts h) (k : ∀ os as ss ds n1 n2 n3 n4 es ep xs, CoreAt w W ts os as ss ds n1 n2 n3 n4 es ep xs h → p) : p := by
  obtain ⟨os, as, ss, ds, n1, n2, n3, n4, es, ep, xs, C⟩ := C
  exact k _ _ _ _ _ _ _ _ _ _ _ C
section
variable {w : World} {W : Wd} {ts : List Tm} {os as ss ds : Array Value} {n1 n2 n3 n4 : Nat} {es : List DictEntry} {ep : Nat} {xs : List (Tm × Addr × Value)} {h : Heap} (C : CoreAt w W ts os as ss ds n1 n2 n3 n4 es ep xs h) {k : Nat} {t : Tm} (ht : ts[k]? = some t)
include C ht
theorem CoreAt.opAt : ∃ tk, os[k]? = some (.str t.op tk) := by
  obtain ⟨o, a, so, d, q1, q2, q3, q4, ⟨tk, rfl⟩, _, _, _⟩ := C.at_ _ _ ht
  exact ⟨tk, q1⟩
theorem CoreAt.sortAt : ∃ tk, ss[k]? = some (.int t.sort tk) := by
  obtain ⟨o, a, so, d, q1, q2, q3, q4, _, _, ⟨tk, rfl⟩, _⟩ := C.at_ _ _ ht
  exact ⟨tk, q3⟩
end
theorem noT7 {W : Wd} {os as ss ds : Array Value} {n1 n2 n3 n4 : Nat} {es bes : List DictEntry} {ep ne : Nat} : ∀ p ∈ [(W.dA, dictOf bes ne), (W.bA, instObj 656 W.dA), (W.oA, lsO os n1), (W.aA, lsO as n2), (W.soA, lsO ss n3), (W.daA, lsO ds n4), (W.nA, dictOf es ep)], p.2.cls ≠ .type "tuple" :=
  all7 (by simp) (by simp) (by simp) (by simp) (by simp) (by simp) (by simp)
section
variable {w : World} {c : Cx} {l : Led} {m : Mp} {P : Value → Led → Mp → Prop} {PU : Unit → Led → Mp → Prop} {PM : Value × List Value → Led → Mp → Prop}
theorem J.dmeth {D : Addr} {es : List DictEntry} {ep : Nat} {pl : Sem Bool} (i : Nat) (h1 : nth l i = some (D, dictOf es ep)) (k : PM (.builtin "dict.get", [.ref D]) l m) : J w c l m (getMethod (.ref D) (Str.ofString "get") pl) PM := fun h tk O =>
  line_method O.N (nth_mem h1) ⟨_, _, _, _, rfl, O, k⟩
structure KeyAt (w : World) (g : Heap) (es : List DictEntry) (xs : List (Tm × Addr × Value)) (t : Tm) (aT : Addr) (dV : Value) : Prop where
  en : es = xs.map (entryOfKey (tmKind PR w))
  Kg : ∀ x ∈ xs, IsTm PR w g x.1 x.2.1
  nd : (xs.map (·.1)).Nodup
  wf : t.wf
  Ag : IsTupleKey (PySem.intKind PR w) g t.args aT
  Dg : IsDt PR w g t.data dV
theorem J.dget {nA kA aT : Addr} {es : List DictEntry} {ep : Nat} {t : Tm} {t1 t2 : Tok} {dV dflt : Value} {xs : List (Tm × Addr × Value)} (i j : Nat) {n : Nat} (R : Rm c (n + 1)) (h1 : nth l i = some (nA, dictOf es ep)) (h2 : nth l j = some (kA, tupO [.str t.op t1, .ref aT, .int t.sort t2, dV]))
    (K : KeyAt w c.g es xs t aT dV) (lo : (nA == sysModules) = false) (x : Option Value) (hx : (atKey xs t).map (·.2) = x) (k : P (x.getD dflt) l m) : J w c l m (PySem.call (.builtin "dict.get") [.ref nA, .ref kA, dflt]) P := fun h tk O =>
  line_get (by have := R.units; lia) O.F O.N (nth_mem h1) (nth_mem h2) K.en K.Kg K.nd K.wf K.Ag K.Dg lo x hx fun tk' => ⟨_, tk', _, _, rfl, O, k⟩
theorem J.dset {nA kA aT : Addr} {es : List DictEntry} {ep : Nat} {t : Tm} {t1 t2 : Tok} {dV v : Value} {xs : List (Tm × Addr × Value)} {gg : Obj → Led} (j : Nat) {n : Nat} (R : Rm c (n + 1)) (u : UpF nA (dictOf es ep) l gg) (h2 : nth l j = some (kA, tupO [.str t.op t1, .ref aT, .int t.sort t2, dV]))
    (K : KeyAt w c.g es xs t aT dV) (hx : atKey xs t = none) (hz : xs.length ≤ 1000) (k : ∀ ep', PU () (gg (dictOf ((xs ++ [(t, kA, v)]).map (entryOfKey (tmKind PR w))) ep')) m) : J w c l m (setItem (.ref nA) (.ref kA) v) PU := fun h tk O =>
  line_set (by have := R.units; lia) O.F O.N (u.upd O.nd) (nth_mem h2) K.en K.Kg K.nd K.wf K.Ag K.Dg hx hz fun h' tk' ep' F' N' => ⟨_, _, _, _, rfl, ⟨F', N', (u.up _).nd O.nd⟩, k ep'⟩
end
section
variable {w : World} {mean : ExcName → Option Value} {mg mb : Str → Option Value} {dp un : Nat} {fr : Option (List Env)} {gd : Option (List Code)} {s : Shared} {E : Value → Shared → Prop} {Q : Value → Shared → Prop} {hb : Heap}
theorem make_fn (G : Gd w mean mg mb hb) (kp : ∀ b o, hb.get? b = some o → s.heap.get? b = some o) (R : Room dp un 3) (W : Wd) (wok : W.Ok) {es : List DictEntry} {ne : Nat} {ts : List Tm}
    (hB : s.heap.get? W.bA = some (instObj 656 W.dA)) (hD : s.heap.get? W.dA = some (dictOf es ne)) (C : Core w W ts s.heap) (hhi : ∀ a ∈ W.bank, hb.get? a = none)
    (g1 : getL (Str.ofString "numbers") es = some (some (.ref W.nA))) (g2 : getL (Str.ofString "term_ops") es = some (some (.ref W.oA))) (g3 : getL (Str.ofString "term_args") es = some (some (.ref W.aA)))
    (g4 : getL (Str.ofString "term_sorts") es = some (some (.ref W.soA))) (g5 : getL (Str.ofString "term_datas") es = some (some (.ref W.daA)))
    (t : Tm) (wf : t.wf) (t1 t2 : Tok) (aT : Addr) (dV : Value) (Ag : IsTupleKey (PySem.intKind PR w) s.heap t.args aT) (Dg : IsDt PR w s.heap t.data dV) (hz : ts.length ≤ 900)
    (hret : ∀ k tk h' tk' ts', Mk ts t ts' k → Keep W.core s.heap h' → Core w W ts' h' → Q (.int (k : Int) tk) { s with heap := h', toks := tk' }) :
    wpAny (model PySem.Challenge.rw_sj0101_01.row.prog w) (AR dp un fr gd) (call (.ref 270) [.ref W.bA, .str t.op t1, .ref aT, .int t.sort t2, dV]) Q E s := by
  have X₀ := G.X
  revert X₀
  k_fill
  intro X₀
  clear X₀
  refine C.cases fun os as ss ds n1 n2 n3 n4 nes nep xs C => ?_
  have hD' := C.ND hB hD hhi
  refine call_J (n := 2) _ [(Str.ofString "self", .ref W.bA), (Str.ofString "op", .str t.op t1), (Str.ofString "args", .ref aT), (Str.ofString "sort", .int t.sort t2), (Str.ofString "data", dV)] R G kp hD' wok.nd ?_
  intro c G R he en
  have tk0 := en.tup hD' noT7
  have K : KeyAt w c.g nes xs t aT dV := ⟨C.ents, fun x hx => (C.keys x hx).keeps tk0, C.nd, wf, tupleKey_keeps Ag tk0, Dg.keeps tk0⟩
  dsimp only [List.reverse, List.reverseAux]
  k_with "make_MMake" => ((with_reducible refine (?_ : J _ _ _ _ (getMethod _ (Str.ofString "get") _) _)); refine J.dmeth _ (by k_extra "nth") ?_)
  k_with "make_MMake" => ((with_reducible refine (?_ : J _ _ _ _ (PySem.call (.builtin "len") _) _)); refine J.len (k := (ts.length : Int)) _ (by k_extra "nth") (by rw [C.s1]) (by lia) ?_; intro t_l)
  k_with "make_MMake" => ((with_reducible refine (?_ : J _ _ _ _ (PySem.call (.builtin "list.append") _) _)); refine J.lappend (by k_extra "up") (by rw [sizeLine_eq]; (first | rw [C.s1] | rw [C.s2] | rw [C.s3] | rw [C.s4]); lia) ?_)
  cases hx : atKey xs t with
  | none =>
    k_with "make_MMake" => ((with_reducible refine (?_ : J _ _ _ _ (PySem.call (.builtin "dict.get") _) _)); refine J.dget _ _ R (by k_extra "nth") (by k_extra "nth") K wok.nA1 none (by rw [hx]; rfl) ?_; dsimp only [Option.getD])
    k_with "make_MMake" => ((with_reducible refine (?_ : J _ _ _ _ (setItem _ _ _) _)); refine J.dset _ R (by k_extra "upf") (by k_extra "nth") K hx (by have := C.len; lia) ?_; intro ep9)
    repeat' (first | k_extra "make_MMake" | k_extra "j")
    intro h9 tk8 O9 K9
    have tk9 : TupKeep s.heap h9 := tk0.trans (TupKeep.of_all O9.F.keep)
    have C' := CoreAt.add C tk9 (o := .str t.op t1) (a := .ref aT) (s := .int t.sort t2) (d := dV) ⟨⟨_, rfl⟩, ⟨_, rfl, tupleKey_keeps Ag tk9⟩, ⟨_, rfl⟩, Dg.keeps tk9⟩ (tm_at wf (O9.N _ (.head _)).1 (tupleKey_keeps Ag tk9) (Dg.keeps tk9))
      (O9.N.get (by k_mem)) (O9.N.get (by k_mem)) (O9.N.get (by k_mem)) (O9.N.get (by k_mem)) (O9.N.get (by k_mem)) rfl (atKey_none hx)
    have mc := @Wd.memC W
    exact hret _ _ _ _ _ (.inr ⟨C.notFound hx, rfl, rfl⟩) (K9.less (fun p hp => (hD' p hp).1) (all7 (.inr (O9.N.get (by k_mem))) (.inr (O9.N.get (by k_mem))) (.inl mc.1) (.inl mc.2.1) (.inl mc.2.2.1) (.inl mc.2.2.2.1) (.inl mc.2.2.2.2))) ⟨_, _, _, _, _, _, _, _, _, _, _, C'⟩
  | some p =>
    obtain ⟨k, tkk, ep1, hk1, hk2⟩ := C.found hx
    k_with "make_MMake" => ((with_reducible refine (?_ : J _ _ _ _ (PySem.call (.builtin "dict.get") _) _)); refine J.dget _ _ R (by k_extra "nth") (by k_extra "nth") K wok.nA1 (some (.int (k : Int) tkk)) (by rw [hx, ← ep1]; rfl) ?_; dsimp only [Option.getD])
    repeat' (first | k_extra "make_MMake" | k_extra "j")
    intro h9 tk8 O9 K9
    have K0 := keep0 K9 hD' O9 (fun p hp => .tail _ hp)
    exact hret _ _ _ _ _ (.inl ⟨rfl, hk1, hk2⟩) (K0.mono (fun x hx => nomatch hx)) ⟨_, _, _, _, _, _, _, _, _, _, _, C.keeps0 (fun b o e => K0 b o List.not_mem_nil e)⟩
end
end Mine

open PySem PySem.W PySem.Calls PyProof.Rows
set_option Elab.async false
set_option linter.all false
set_option maxRecDepth 100000
set_option maxHeartbeats 40000000
namespace Mine
noncomputable abbrev bankEs (w : World) (W : Wd) : List DictEntry := [
  ⟨PyData.keyHash w.params (Str.ofString "sort_names"), .str (Str.ofString "sort_names") (W.tk 0), .ref W.snA⟩,
  ⟨PyData.keyHash w.params (Str.ofString "sort_widths"), .str (Str.ofString "sort_widths") (W.tk 1), .ref W.swA⟩,
  ⟨PyData.keyHash w.params (Str.ofString "fun_names"), .str (Str.ofString "fun_names") (W.tk 2), .ref W.fnA⟩,
  ⟨PyData.keyHash w.params (Str.ofString "fun_args"), .str (Str.ofString "fun_args") (W.tk 3), .ref W.faA⟩,
  ⟨PyData.keyHash w.params (Str.ofString "fun_results"), .str (Str.ofString "fun_results") (W.tk 4), .ref W.frA⟩,
  ⟨PyData.keyHash w.params (Str.ofString "fresh_count"), .str (Str.ofString "fresh_count") (W.tk 5), .int 0 (W.tk 14)⟩,
  ⟨PyData.keyHash w.params (Str.ofString "term_ops"), .str (Str.ofString "term_ops") (W.tk 6), .ref W.oA⟩,
  ⟨PyData.keyHash w.params (Str.ofString "term_args"), .str (Str.ofString "term_args") (W.tk 7), .ref W.aA⟩,
  ⟨PyData.keyHash w.params (Str.ofString "term_sorts"), .str (Str.ofString "term_sorts") (W.tk 8), .ref W.soA⟩,
  ⟨PyData.keyHash w.params (Str.ofString "term_datas"), .str (Str.ofString "term_datas") (W.tk 9), .ref W.daA⟩,
  ⟨PyData.keyHash w.params (Str.ofString "numbers"), .str (Str.ofString "numbers") (W.tk 10), .ref W.nA⟩,
  ⟨PyData.keyHash w.params (Str.ofString "true_number"), .str (Str.ofString "true_number") (W.tk 11), .int 1 (W.tk 15)⟩,
  ⟨PyData.keyHash w.params (Str.ofString "false_number"), .str (Str.ofString "false_number") (W.tk 12), .int 2 (W.tk 16)⟩,
  ⟨PyData.keyHash w.params (Str.ofString "bv_numbers"), .str (Str.ofString "bv_numbers") (W.tk 13), .ref W.bvA⟩]
noncomputable abbrev led7 (w : World) (W : Wd) (os as ss ds : Array Value) (n1 n2 n3 n4 : Nat) (es : List DictEntry) (ep : Nat) : List (Addr × Obj) :=
  [(W.dA, dictOf (bankEs w W) 14), (W.bA, instObj 656 W.dA), (W.oA, lsO os n1), (W.aA, lsO as n2), (W.soA, lsO ss n3), (W.daA, lsO ds n4), (W.nA, dictOf es ep)]
structure Bank (w : World) (W : Wd) (ts : List Tm) (h : Heap) : Prop where
  inst : h.get? W.bA = some (instObj 656 W.dA)
  dict : h.get? W.dA = some (dictOf (bankEs w W) 14)
  core : Core w W ts h
section
variable {w : World} {mean : ExcName → Option Value} {mg mb : Str → Option Value} {dp un : Nat} {fr : Option (List Env)} {gd : Option (List Code)} {s : Shared} {E : Value → Shared → Prop} {Q : Value → Shared → Prop} {hb : Heap}
theorem Bank.ND {W : Wd} {ts : List Tm} {h : Heap} (_ : W.Ok) (B : Bank w W ts h) (hhi : ∀ a ∈ W.bank, hb.get? a = none) {os as ss ds : Array Value} {n1 n2 n3 n4 : Nat} {es : List DictEntry} {ep : Nat} {xs : List (Tm × Addr × Value)}
    (C : CoreAt w W ts os as ss ds n1 n2 n3 n4 es ep xs h) :
    ∀ p ∈ [(W.dA, dictOf (bankEs w W) 14), (W.bA, instObj 656 W.dA), (W.oA, lsO os n1), (W.aA, lsO as n2), (W.soA, lsO ss n3), (W.daA, lsO ds n4), (W.nA, dictOf es ep)], h.get? p.1 = some p.2 ∧ hb.get? p.1 = none := by
  exact C.ND B.inst B.dict hhi
theorem op_fn (G : Gd w mean mg mb hb) (kp : ∀ b o, hb.get? b = some o → s.heap.get? b = some o) (R : Room dp un 3) (W : Wd) (wok : W.Ok) {ts : List Tm} (B : Bank w W ts s.heap) (hhi : ∀ a ∈ W.bank, hb.get? a = none) (k : Int) (tk : Tok) (t : Tm) (h0 : 0 ≤ k) (h1 : k < 1000) (ht : ts[k.toNat]? = some t)
    (hret : ∀ tk h' tk', Keep [] s.heap h' → Q (.str t.op tk) { s with heap := h', toks := tk' }) :
    wpAny (model PySem.Challenge.rw_sj0101_01.row.prog w) (AR dp un fr gd) (call (.ref 228) [.ref W.bA, .int k tk]) Q E s := by
  have X₀ := G.X
  revert X₀
  k_fill
  intro X₀
  clear X₀
  refine B.core.cases fun os as ss ds n1 n2 n3 n4 nes nep xs C => ?_
  have ND := Bank.ND wok B hhi C
  obtain ⟨_, q1⟩ := C.opAt ht
  refine call_J (n := 2) _ [((Str.ofString "self"), .ref W.bA), ((Str.ofString "t"), .int k tk)] R G kp ND wok.nd ?_
  intro c G R he en
  dsimp only [List.reverse, List.reverseAux]
  repeat' (first | k_extra "j")
  intro h9 tk8 O9 K9
  exact hret _ _ _ (keep0 K9 ND O9 (fun p hp => hp))
theorem size_fn (G : Gd w mean mg mb hb) (kp : ∀ b o, hb.get? b = some o → s.heap.get? b = some o) (R : Room dp un 3) (W : Wd) (wok : W.Ok) {ts : List Tm} (B : Bank w W ts s.heap) (hhi : ∀ a ∈ W.bank, hb.get? a = none) (hz : ts.length ≤ 900)
    (hret : ∀ tk h' tk', Keep [] s.heap h' → Q (.int ((ts.length : Int) - 1) tk) { s with heap := h', toks := tk' }) :
    wpAny (model PySem.Challenge.rw_sj0101_01.row.prog w) (AR dp un fr gd) (call (.ref 263) [.ref W.bA]) Q E s := by
  have X₀ := G.X
  revert X₀
  k_fill
  intro X₀
  clear X₀
  refine B.core.cases fun os as ss ds n1 n2 n3 n4 nes nep xs C => ?_
  have ND := Bank.ND wok B hhi C
  have hs1 := C.s1
  k_with "size_MGet" => ((with_reducible refine (?_ : J _ _ _ _ (PySem.call (.builtin "len") _) _)); refine J.len (k := (ts.length : Int)) _ (by k_extra "nth") (by rw [hs1]) (by lia) ?_; intro t_l)
  refine call_J (n := 2) _ [((Str.ofString "self"), .ref W.bA)] R G kp ND wok.nd ?_
  intro c G R he en
  dsimp only [List.reverse, List.reverseAux]
  repeat' (first | k_extra "size_MGet" | k_extra "j")
  intro h9 tk8 O9 K9
  exact hret _ _ _ (keep0 K9 ND O9 (fun p hp => hp))
theorem is_number_sort_fn (G : Gd w mean mg mb hb) (kp : ∀ b o, hb.get? b = some o → s.heap.get? b = some o) (R : Room dp un 3) (v : Value) (k : Int) (tk : Tok) (hk : k = 1 ∨ k = 2)
    (hret : ∀ h' tk', Keep [] s.heap h' → Q (.bool true) { s with heap := h', toks := tk' }) :
    wpAny (model PySem.Challenge.rw_sj0101_01.row.prog w) (AR dp un fr gd) (call (.ref 165) [v, .int k tk]) Q E s := by
  have X₀ := G.X
  revert X₀
  k_fill
  intro X₀
  clear X₀
  refine call_J (n := 2) [] [((Str.ofString "self"), v), ((Str.ofString "s"), .int k tk)] R G kp (fun _ h => nomatch h) .nil ?_
  intro c G R he en
  dsimp only [List.reverse, List.reverseAux]
  repeat' (first | k_extra "j")
  · rename k = 1 => hk1
    subst hk1
    intro h9 tk8 O9 K9
    exact hret _ _ K9
  · rename ¬ k = 1 => hk1
    have hk2 : k = 2 := by lia
    subst hk2
    intro h9 tk8 O9 K9
    exact hret _ _ K9
end
theorem CoreAt.tup {w : World} {W : Wd} {ts : List Tm} {os as ss ds : Array Value} {n1 n2 n3 n4 : Nat} {es : List DictEntry} {ep : Nat} {xs : List (Tm × Addr × Value)} {h h' : Heap}
    (C : CoreAt w W ts os as ss ds n1 n2 n3 n4 es ep xs h) (k : TupKeep h h') (e1 : h'.get? W.oA = some (lsO os n1)) (e2 : h'.get? W.aA = some (lsO as n2)) (e3 : h'.get? W.soA = some (lsO ss n3)) (e4 : h'.get? W.daA = some (lsO ds n4)) (e5 : h'.get? W.nA = some (dictOf es ep)) :
    CoreAt w W ts os as ss ds n1 n2 n3 n4 es ep xs h' where
  ops := e1
  args := e2
  sorts := e3
  datas := e4
  nums := e5
  ents := C.ents
  keys := fun x hx => (C.keys x hx).keeps k
  nd := C.nd
  s1 := C.s1
  s2 := C.s2
  s3 := C.s3
  s4 := C.s4
  at_ := fun i t e => let ⟨o, a, s, d, q1, q2, q3, q4, z⟩ := C.at_ i t e; ⟨o, a, s, d, q1, q2, q3, q4, z.keeps k⟩
  len := C.len
  nums' := C.nums'
theorem bank_at {w : World} {W : Wd} {ts : List Tm} {os as ss ds : Array Value} {n1 n2 n3 n4 : Nat} {es : List DictEntry} {ep : Nat} {xs : List (Tm × Addr × Value)} {g h h' : Heap} {L : Addr} {m : Str → Option Value} {news : List (Addr × Obj)}
    (C : CoreAt w W ts os as ss ds n1 n2 n3 n4 es ep xs h) (k : TupKeep h g) (F : Fr g L h' m) (N : News g L h' news) (e0 : (W.dA, dictOf (bankEs w W) 14) ∈ news) (e00 : (W.bA, instObj 656 W.dA) ∈ news)
    (e1 : (W.oA, lsO os n1) ∈ news) (e2 : (W.aA, lsO as n2) ∈ news) (e3 : (W.soA, lsO ss n3) ∈ news) (e4 : (W.daA, lsO ds n4) ∈ news) (e5 : (W.nA, dictOf es ep) ∈ news) : Bank w W ts h' :=
  ⟨N.get e00, N.get e0, ⟨_, _, _, _, _, _, _, _, _, _, _, C.tup (k.trans (TupKeep.of_all F.keep)) (N.get e1) (N.get e2) (N.get e3) (N.get e4) (N.get e5)⟩⟩
theorem bank_none {W : Wd} {g h' : Heap} {L : Addr} {news : List (Addr × Obj)} {o0 o00 o1 o2 o3 o4 o5 : Obj} (N : News g L h' news) (e0 : (W.dA, o0) ∈ news) (e00 : (W.bA, o00) ∈ news)
    (e1 : (W.oA, o1) ∈ news) (e2 : (W.aA, o2) ∈ news) (e3 : (W.soA, o3) ∈ news) (e4 : (W.daA, o4) ∈ news) (e5 : (W.nA, o5) ∈ news) : ∀ a ∈ W.bank, g.get? a = none := by
  intro a ha
  simp only [Wd.bank, List.mem_cons, List.not_mem_nil, or_false] at ha
  rcases ha with rfl | rfl | rfl | rfl | rfl | rfl | rfl
  · exact N.fresh e0
  · exact N.fresh e00
  · exact N.fresh e1
  · exact N.fresh e2
  · exact N.fresh e3
  · exact N.fresh e4
  · exact N.fresh e5
theorem wf_i {op : Str} {args : List Int} {so n : Int} (h : op ≠ Str.ofString "num") : Tm.wf ⟨op, args, so, .i n⟩ := h
theorem wf_r {args : List Int} {so p q : Int} : Tm.wf ⟨Str.ofString "num", args, so, .r p q⟩ := rfl
theorem Core.all {w : World} {W : Wd} {ts : List Tm} {h h' : Heap} (C : Core w W ts h) (k : Keep [] h h') : Core w W ts h' :=
  let ⟨os, as, ss, ds, n1, n2, n3, n4, es, ep, xs, C⟩ := C; ⟨os, as, ss, ds, n1, n2, n3, n4, es, ep, xs, C.keeps0 fun b o e => k b o List.not_mem_nil e⟩
theorem Bank.all {w : World} {W : Wd} {ts : List Tm} {h h' : Heap} (B : Bank w W ts h) (k : Keep [] h h') : Bank w W ts h' := ⟨k _ _ List.not_mem_nil B.inst, k _ _ List.not_mem_nil B.dict, B.core.all k⟩
theorem items_int {w : World} {h : Heap} {a : Addr} {vs : List Value} {ns : List Int} (e : h.get? a = some (tupO vs)) (i : IntsAre vs ns) : IsTupleKey (PySem.intKind PR w) h ns a := by
  refine ⟨_, _, _, e, rfl, rfl, ?_⟩
  show ItemsAre _ ns vs
  clear e
  induction i with
  | nil => exact .nil
  | cons n t _ ih => exact .cons (by simp [PySem.intKind, Value.isInt]) ih
structure BkD (w : World) (c : Cx) (W : Wd) (ts : List Tm) (D : Led) : Prop where
  at_ : ∀ h l m, Own c l m h → (∀ p ∈ D, p ∈ l) → Bank w W ts h
  hi : ∀ h l m, Own c l m h → (∀ p ∈ D, p ∈ l) → ∀ a ∈ W.bank, c.g.get? a = none
  has : ∀ a ∈ W.bank, ∃ o, (a, o) ∈ D
section
variable {w : World} {c : Cx} {l D : Led} {m : Mp} {P : Value → Led → Mp → Prop} {N : Nat} {W : Wd} {ts : List Tm} {k : Int} {tk : Tok} {t : Tm}
theorem bkD {os as ss ds : Array Value} {n1 n2 n3 n4 : Nat} {es : List DictEntry} {ep : Nat} {xs : List (Tm × Addr × Value)} {h : Heap} (C : CoreAt w W ts os as ss ds n1 n2 n3 n4 es ep xs h) (k : TupKeep h c.g) :
    BkD w c W ts [(W.dA, dictOf (bankEs w W) 14), (W.bA, instObj 656 W.dA), (W.oA, lsO os n1), (W.aA, lsO as n2), (W.soA, lsO ss n3), (W.daA, lsO ds n4), (W.nA, dictOf es ep)] :=
  ⟨fun _ _ _ O s => bank_at C k O.F O.N (s _ (nth_mem (i := 0) rfl)) (s _ (nth_mem (i := 1) rfl)) (s _ (nth_mem (i := 2) rfl)) (s _ (nth_mem (i := 3) rfl)) (s _ (nth_mem (i := 4) rfl)) (s _ (nth_mem (i := 5) rfl)) (s _ (nth_mem (i := 6) rfl)),
   fun _ _ _ O s => bank_none O.N (s _ (nth_mem (i := 0) rfl)) (s _ (nth_mem (i := 1) rfl)) (s _ (nth_mem (i := 2) rfl)) (s _ (nth_mem (i := 3) rfl)) (s _ (nth_mem (i := 4) rfl)) (s _ (nth_mem (i := 5) rfl)) (s _ (nth_mem (i := 6) rfl)),
   fun a ha => by
    simp only [Wd.bank, List.mem_cons, List.not_mem_nil, or_false] at ha
    rcases ha with rfl | rfl | rfl | rfl | rfl | rfl | rfl
    · exact ⟨_, nth_mem (i := 0) rfl⟩
    · exact ⟨_, nth_mem (i := 1) rfl⟩
    · exact ⟨_, nth_mem (i := 2) rfl⟩
    · exact ⟨_, nth_mem (i := 3) rfl⟩
    · exact ⟨_, nth_mem (i := 4) rfl⟩
    · exact ⟨_, nth_mem (i := 5) rfl⟩
    · exact ⟨_, nth_mem (i := 6) rfl⟩⟩
theorem BkD.sub {q : Addr × Obj} (B : BkD w c W ts D) : BkD w c W ts (q :: D) := ⟨fun h l m O s => B.at_ h l m O fun p hp => s p (.tail _ hp), fun h l m O s => B.hi h l m O fun p hp => s p (.tail _ hp), fun a ha => let ⟨o, h⟩ := B.has a ha; ⟨o, .tail _ h⟩⟩
theorem J.isNum {v : Value} (G : Gc w c) (R : Rm c N) (hk : k = 1 ∨ k = 2) (h : P (.bool true) l m) (hN : autoParam (3 ≤ N) Mine.aT2._auto_1) : J w c l m (PySem.call (.ref 165) [v, .int k tk]) P :=
  J.con 3 G R hN fun g r _ _ _ O ret => is_number_sort_fn g O.F.keep r v k tk hk fun _ _ K => ret _ _ _ K fun _ => h
end
end Mine

open PySem PySem.W PySem.Calls PyProof.Rows
set_option Elab.async false
set_option linter.all false
set_option maxRecDepth 100000
set_option maxHeartbeats 40000000
namespace Mine
section
variable {w : World} {mean : ExcName → Option Value} {mg mb : Str → Option Value} {dp un : Nat} {fr : Option (List Env)} {gd : Option (List Code)} {s : Shared} {E : Value → Shared → Prop} {Q : Value → Shared → Prop} {hb : Heap}
theorem want_fn (G : Gd w mean mg mb hb) (kp : ∀ b o, hb.get? b = some o → s.heap.get? b = some o) (R : Room dp un 3) (W : Wd) (wok : W.Ok) {ts : List Tm} (B : Bank w W ts s.heap) (hhi : ∀ a ∈ W.bank, hb.get? a = none) (k : Int) (tk tk2 : Tok) (wh : Value) (t : Tm) (h0 : 0 ≤ k) (h1 : k < 1000) (ht : ts[k.toNat]? = some t) (so9 : Int) (hso : t.sort = so9)
    (hret : ∀ h' tk', Keep [] s.heap h' → Q .none { s with heap := h', toks := tk' }) :
    wpAny (model PySem.Challenge.rw_sj0101_01.row.prog w) (AR dp un fr gd) (call (.ref 291) [.ref W.bA, .int k tk, .int so9 tk2, wh]) Q E s := by
  subst hso
  have X₀ := G.X
  revert X₀
  k_fill
  intro X₀
  clear X₀
  refine B.core.cases fun os as ss ds n1 n2 n3 n4 nes nep xs C => ?_
  have ND := Bank.ND wok B hhi C
  obtain ⟨_, q1⟩ := C.sortAt ht
  refine call_J (n := 2) _ [((Str.ofString "self"), .ref W.bA), ((Str.ofString "t"), .int k tk), ((Str.ofString "s"), .int t.sort tk2), ((Str.ofString "where"), wh)] R G kp ND wok.nd ?_
  intro c G R he en
  dsimp only [List.reverse, List.reverseAux]
  repeat' (k_extra "j")
  intro h9 tk8 O9 K9
  exact hret _ _ (keep0 K9 ND O9 (fun p hp => hp))
theorem want_number_fn (G : Gd w mean mg mb hb) (kp : ∀ b o, hb.get? b = some o → s.heap.get? b = some o) (R : Room dp un 6) (W : Wd) (wok : W.Ok) {ts : List Tm} (B : Bank w W ts s.heap) (hhi : ∀ a ∈ W.bank, hb.get? a = none) (k : Int) (tk : Tok) (wh : Value) (t : Tm) (h0 : 0 ≤ k) (h1 : k < 1000) (ht : ts[k.toNat]? = some t) (hs : t.sort = 1 ∨ t.sort = 2)
    (hret : ∀ h' tk', Keep [] s.heap h' → Q .none { s with heap := h', toks := tk' }) :
    wpAny (model PySem.Challenge.rw_sj0101_01.row.prog w) (AR dp un fr gd) (call (.ref 471) [.ref W.bA, .int k tk, wh]) Q E s := by
  have X₀ := G.X
  revert X₀
  k_fill
  intro X₀
  clear X₀
  refine B.core.cases fun os as ss ds n1 n2 n3 n4 nes nep xs C => ?_
  have ND := Bank.ND wok B hhi C
  obtain ⟨_, q1⟩ := C.sortAt ht
  refine call_J (n := 5) _ [((Str.ofString "self"), .ref W.bA), ((Str.ofString "t"), .int k tk), ((Str.ofString "where"), wh)] R G kp ND wok.nd ?_
  intro c G R he en
  dsimp only [List.reverse, List.reverseAux]
  k_with "wn_MWant" => ((with_reducible refine (?_ : J _ _ _ _ (PySem.call (.ref 165) _) _)); refine J.isNum (by assumption) (by assumption) (by assumption) ?_)
  repeat' (first | k_extra "wn_MWant" | k_extra "j")
  intro h9 tk8 O9 K9
  exact hret _ _ (keep0 K9 ND O9 (fun p hp => hp))
end
section
variable {w : World} {c : Cx} {l D : Led} {m : Mp} {P : Value → Led → Mp → Prop} {N : Nat} {W : Wd} {ts : List Tm} {k : Int} {tk tk2 : Tok} {t : Tm}
theorem J.want {wh : Value} {so : Int} (G : Gc w c) (R : Rm c N) (wok : W.Ok) (B : BkD w c W ts D) (s : ∀ p ∈ D, p ∈ l) (h0 : 0 ≤ k) (h1 : k < 1000) (ht : ts[k.toNat]? = some t) (hs : t.sort = so) (h : P .none l m) (hN : autoParam (3 ≤ N) Mine.aT2._auto_1) : J w c l m (PySem.call (.ref 291) [.ref W.bA, .int k tk, .int so tk2, wh]) P :=
  J.con 3 G R hN fun g r _ _ _ O ret => want_fn g O.F.keep r W wok (B.at_ _ _ _ O s) (B.hi _ _ _ O s) k tk tk2 wh t h0 h1 ht so hs fun _ _ K => ret _ _ _ K fun _ => h
theorem J.wantN {wh : Value} (G : Gc w c) (R : Rm c N) (wok : W.Ok) (B : BkD w c W ts D) (s : ∀ p ∈ D, p ∈ l) (h0 : 0 ≤ k) (h1 : k < 1000) (ht : ts[k.toNat]? = some t) (hs : t.sort = 1 ∨ t.sort = 2) (h : P .none l m) (hN : autoParam (6 ≤ N) Mine.aT2._auto_1) : J w c l m (PySem.call (.ref 471) [.ref W.bA, .int k tk, wh]) P :=
  J.con 6 G R hN fun g r _ _ _ O ret => want_number_fn g O.F.keep r W wok (B.at_ _ _ _ O s) (B.hi _ _ _ O s) k tk wh t h0 h1 ht hs fun _ _ K => ret _ _ _ K fun _ => h
end
end Mine

open PySem PySem.W PySem.Calls PyProof.Rows
set_option Elab.async false
set_option linter.all false
set_option maxRecDepth 100000
set_option maxHeartbeats 40000000
namespace Mine
noncomputable def tailOf (g : Heap) (L : Addr) (h : Heap) (D : List Addr) : List (Addr × Obj) :=
  (List.range h.objs.size).filterMap fun b => if b ∈ D ∨ b = L ∨ (g.get? b).isSome then none else (h.get? b).map fun o => (b, o)
theorem mem_tailOf {g : Heap} {L : Addr} {h : Heap} {D : List Addr} {b : Addr} {o : Obj} : (b, o) ∈ tailOf g L h D ↔ (b ∉ D ∧ b ≠ L ∧ g.get? b = none) ∧ h.get? b = some o := by
  unfold tailOf
  rw [List.mem_filterMap]
  constructor
  · rintro ⟨c, _, hc⟩
    split at hc
    · cases hc
    · rename_i hn
      cases q : h.get? c with
      | none => rw [q] at hc; cases hc
      | some o' =>
        rw [q] at hc
        simp only [Option.map_some, Option.some.injEq, Prod.mk.injEq] at hc
        obtain ⟨rfl, rfl⟩ := hc
        refine ⟨⟨fun x => hn (.inl x), fun x => hn (.inr (.inl x)), ?_⟩, q⟩
        cases q2 : g.get? c with
        | none => rfl
        | some _ => exact absurd (.inr (.inr (by rw [q2]; rfl))) hn
  · rintro ⟨⟨h1, h2, h3⟩, h4⟩
    refine ⟨b, List.mem_range.mpr (Heap.lt_size h4), ?_⟩
    rw [if_neg (by rintro (x | x | x); exact h1 x; exact h2 x; rw [h3] at x; cases x), h4]
    rfl
theorem bound {g h h' : Heap} {L : Addr} {m : Str → Option Value} {news : List (Addr × Obj)} (F : Fr g L h m) (N : News g L h news) {C : List Addr} (hk : Keep C h h') (D : List (Addr × Obj))
    (hC : ∀ a ∈ C, ∃ o, (a, o) ∈ news) (hD : ∀ p ∈ D, h'.get? p.1 = some p.2) (hf : ∀ p ∈ D, ∃ o, (p.1, o) ∈ news) :
    ∃ R, Fr g L h' m ∧ News g L h' (D ++ R) ∧ OwnOff R (D.map (·.1)) ∧ R = tailOf g L h' (D.map (·.1)) := by
  have nL : L ∉ C := fun q => by obtain ⟨o, ho⟩ := hC _ q; exact (N _ ho).2.1 rfl
  have F' : Fr g L h' m := by
    obtain ⟨oL, es, ep, hL, r⟩ := F.ns
    refine ⟨⟨oL, es, ep, hk _ _ nL hL, r⟩, fun b o e => hk _ _ (fun q => ?_) (F.keep b o e), F.above⟩
    obtain ⟨o', ho⟩ := hC _ q
    have := (N _ ho).2.2
    rw [e] at this; cases this
  refine ⟨_, F', ?_, ?_, rfl⟩
  · intro p hp
    rcases List.mem_append.mp hp with hp | hp
    · obtain ⟨o, ho⟩ := hf _ hp
      exact ⟨hD _ hp, (N _ ho).2.1, (N _ ho).2.2⟩
    · obtain ⟨⟨_, h2, h3⟩, h4⟩ := mem_tailOf.mp hp
      exact ⟨h4, h2, h3⟩
  · intro p hp b hb e
    obtain ⟨⟨h1, _, _⟩, _⟩ := mem_tailOf.mp hp
    exact h1 (e ▸ hb)
theorem later {g h' h : Heap} {L : Addr} {m m' : Str → Option Value} {D : List Addr} {news R : List (Addr × Obj)} (F' : Fr g L h' m) (e : R = tailOf g L h' D) (F : Fr g L h m') (N : News g L h news) (hR : ∀ p ∈ R, p ∈ news) :
    ∀ b o, b ∉ D → b ≠ L → h'.get? b = some o → h.get? b = some o := by
  intro b o h1 h2 h3
  cases q : g.get? b with
  | some o' =>
    have := F'.keep _ _ q
    rw [h3] at this; cases this
    exact F.keep _ _ q
  | none =>
    have := mem_tailOf.mpr ⟨⟨h1, h2, q⟩, h3⟩
    rw [← e] at this
    exact (N _ (hR _ this)).1
theorem frame_dict {g h : Heap} {L : Addr} {m : Str → Option Value} (F : Fr g L h m) {b : Addr} {o : Obj} {xs : Array Value} {n : Nat} (e : h.get? b = some o) (d : o.data = .seq xs n) : b ≠ L := by
  rintro rfl
  obtain ⟨oL, es, ep, hL, hd, _⟩ := F.ns
  rw [hL] at e; cases e
  rw [hd] at d; cases d
noncomputable def NotTup (o : Obj) : Prop := o.cls ≠ .type "tuple" ∨ ∀ xs n, o.data ≠ .seq xs n
theorem NotTup.cell {o : Obj} {v : Option Value} (h : o.data = .cell v) : NotTup o := .inr fun xs n e => by rw [h] at e; cases e
theorem NotTup.ls {vs : Array Value} {n : Nat} : NotTup (lsO vs n) := .inl (by simp)
theorem IsDictOf.cls {w : World} {K : Type} [DecidableEq K] {knd : KeyKind PR w K} {o : Obj} {kvs : List (K × Value)} (h : o.IsDictOf knd kvs) : o.cls = .type "dict" := by
  obtain ⟨_, _, h, _⟩ := h
  exact h.1
theorem NotTup.dict {w : World} {K : Type} [DecidableEq K] {knd : KeyKind PR w K} {o : Obj} {kvs : List (K × Value)} (h : o.IsDictOf knd kvs) : NotTup o := .inl (by rw [IsDictOf.cls h]; simp)
structure Bnd (g : Heap) (L : Addr) (h' : Heap) (D R : List (Addr × Obj)) : Prop where
  fr : ∃ m, Fr g L h' m
  eq : R = tailOf g L h' (D.map (·.1))
  at_ : ∀ p ∈ D, h'.get? p.1 = some p.2 ∧ NotTup p.2
theorem Bnd.seq {g h' h : Heap} {L : Addr} {m' : Str → Option Value} {D : List (Addr × Obj)} {news R : List (Addr × Obj)} (Bd : Bnd g L h' D R) (F : Fr g L h m') (N : News g L h news) (hR : ∀ p ∈ R, p ∈ news) :
    ∀ b o xs n, b ∉ D.map (·.1) → o.data = .seq xs n → h'.get? b = some o → h.get? b = some o := fun b o xs n hb hd e =>
  let ⟨_, F'⟩ := Bd.fr; later F' Bd.eq F N hR b o hb (frame_dict F' e hd) e
theorem Bnd.tup {g h' h : Heap} {L : Addr} {m' : Str → Option Value} {D : List (Addr × Obj)} {news R : List (Addr × Obj)} (Bd : Bnd g L h' D R) (F : Fr g L h m') (N : News g L h news) (hR : ∀ p ∈ R, p ∈ news) : TupKeep h' h := by
  intro b o xs n e1 hc hd
  refine Bd.seq F N hR b o xs n (fun q => ?_) hd e1
  obtain ⟨p, hp, rfl⟩ := List.mem_map.mp q
  obtain ⟨h1, h2⟩ := Bd.at_ p hp
  rw [h1] at e1; cases e1
  rcases h2 with h2 | h2
  · exact h2 hc
  · exact h2 _ _ hd
theorem nd_tail {g h : Heap} {L : Addr} {D : List Addr} : Nd (tailOf g L h D) := by
  unfold tailOf Nd
  refine List.Pairwise.filterMap _ (fun a b hab p hp q hq e => hab ?_) (List.nodup_range (n := h.objs.size))
  · have ha : p.1 = a := by
      split at hp
      · cases hp
      · cases z : h.get? a with
        | none => rw [z] at hp; cases hp
        | some o => rw [z] at hp; cases hp; rfl
    have hb : q.1 = b := by
      split at hq
      · cases hq
      · cases z : h.get? b with
        | none => rw [z] at hq; cases hq
        | some o => rw [z] at hq; cases hq; rfl
    exact ha ▸ hb ▸ e
inductive Kt (D : Led) : Led → Led → Prop
  | nil : Kt D D []
  | keep {p l X} : NotTup p.2 → Kt D l X → Kt D (p :: l) (p :: X)
  | drop {p l X} : Kt D l X → Kt D (p :: l) X
theorem Kt.sub {D l X : Led} (k : Kt D l X) : (∀ p ∈ X, p ∈ l) ∧ (∀ p ∈ D, p ∈ l) ∧ ∀ p ∈ X, NotTup p.2 := by
  induction k with
  | nil => exact ⟨fun _ h => (nomatch h), fun _ h => h, fun _ h => (nomatch h)⟩
  | keep n _ ih =>
    refine ⟨fun p hp => ?_, fun p hp => .tail _ (ih.2.1 p hp), fun p hp => ?_⟩
    · rcases List.mem_cons.mp hp with rfl | hp
      · exact .head _
      · exact .tail _ (ih.1 p hp)
    · rcases List.mem_cons.mp hp with rfl | hp
      · exact n
      · exact ih.2.2 p hp
  | drop _ ih => exact ⟨fun p hp => .tail _ (ih.1 p hp), fun p hp => .tail _ (ih.2.1 p hp), ih.2.2⟩
theorem Kt.nd {D l X : Led} (k : Kt D l X) (n : Nd l) : Nd X ∧ ∀ p ∈ X, ∀ q ∈ D, p.1 ≠ q.1 := by
  induction k with
  | nil => exact ⟨.nil, fun _ h => nomatch h⟩
  | keep _ k ih =>
    have n' := List.pairwise_cons.mp n
    obtain ⟨a, b⟩ := ih n'.2
    refine ⟨List.pairwise_cons.mpr ⟨fun x hx => n'.1 x (k.sub.1 x hx), a⟩, fun p hp q hq => ?_⟩
    rcases List.mem_cons.mp hp with rfl | hp
    · exact n'.1 q (k.sub.2.1 q hq)
    · exact b p hp q hq
  | drop _ ih => exact ih (List.pairwise_cons.mp n).2
section
variable {w : World} {c : Cx} {l D X : Led} {m : Mp} {P : Value → Led → Mp → Prop} {N : Nat} {W : Wd} {ts : List Tm}
theorem J.bnd {t : Sem Value} {Res : Value → Heap → Prop} (n : Nat) (G : Gc w c) (R : Rm c N) (hN : n ≤ N) (C : List Addr) (hC : ∀ a ∈ C, ∃ o, (a, o) ∈ D) (kt : Kt D l X)
    (h : ∀ {mean mg mb} {dp un : Nat} {fr gd} (_ : Gd w mean mg mb c.g) (_ : Room dp un n) h tk (Q : Value → Shared → Prop), Own c l m h → (∀ v h' tk', Keep C h h' → Res v h' → Q v (c.st h' tk')) → wpAny (model PR w) (AR dp un fr gd) t Q noE (c.st h tk))
    (k : ∀ v h h' R, Own c l m h → Keep C h h' → Res v h' → Bnd c.g c.L h' X R → Own c (X ++ R) m h' → P v (X ++ R) m) : J w c l m t P := fun h0 tk O => by
  obtain ⟨_, _, _, g⟩ := G.gd
  obtain ⟨dp, un, fr, gd, eA, r⟩ := R
  have s2 := kt.sub.2.1
  rw [eA]
  refine h g (Room.le r hN) h0 tk _ O fun v h' tk' K res => ?_
  have XN : ∀ p ∈ X, h'.get? p.1 = some p.2 := fun p hp => K _ _ (fun q => by
    obtain ⟨o, ho⟩ := hC _ q
    exact (kt.nd O.nd).2 p hp _ ho rfl) (O.N p (kt.sub.1 p hp)).1
  obtain ⟨R, F', N', off, eR⟩ := bound O.F O.N K X (fun a ha => let ⟨o, ho⟩ := hC a ha; ⟨o, s2 _ ho⟩) XN (fun p hp => ⟨_, kt.sub.1 p hp⟩)
  have O' : Own c (X ++ R) m h' := ⟨F', N', nd_app (kt.nd O.nd).1 (eR ▸ nd_tail) off⟩
  exact ⟨h', tk', X ++ R, m, rfl, O', k v h0 h' R O K res ⟨⟨_, F'⟩, eR, fun p hp => ⟨XN p hp, kt.sub.2.2 p hp⟩⟩ O'⟩
theorem Bnd.in_ {h' : Heap} {R : Led} (B : Bnd c.g c.L h' X R) {a : Addr} {o : Obj} (e : h'.get? a = some o) (nL : a ≠ c.L) (ng : c.g.get? a = none) (nX : a ∉ X.map (·.1)) : (a, o) ∈ R := B.eq ▸ mem_tailOf.mpr ⟨⟨nX, nL, ng⟩, e⟩
theorem Bnd.old {h h' : Heap} {R : Led} {o o' : Obj} {a : Addr} (B : Bnd c.g c.L h' X R) (kt : Kt D l X) (O : Own c l m h) (hm : (a, o) ∈ D) (e : h'.get? a = some o') : (a, o') ∈ R :=
  B.in_ e (O.N _ (kt.sub.2.1 _ hm)).2.1 (O.N _ (kt.sub.2.1 _ hm)).2.2 fun q => by
    obtain ⟨p, hp, e⟩ := List.mem_map.mp q
    exact (kt.nd O.nd).2 p hp _ hm e
theorem J.bank {t : Sem Value} {Res : Value → List Tm → Prop} (n : Nat) (G : Gc w c) (R : Rm c N) (hN : n ≤ N) (B : BkD w c W ts D) (wok : W.Ok) (kt : Kt D l X)
    (h : ∀ {mean mg mb} {dp un : Nat} {fr gd} (_ : Gd w mean mg mb c.g) (_ : Room dp un n) h tk (Q : Value → Shared → Prop), Own c l m h → Bank w W ts h → (∀ a ∈ W.bank, c.g.get? a = none) →
      (∀ v h' tk' ts', Keep W.core h h' → Core w W ts' h' → Res v ts' → Q v (c.st h' tk')) → wpAny (model PR w) (AR dp un fr gd) t Q noE (c.st h tk))
    (k : ∀ v ts' R, Res v ts' → BkD w c W ts' R → P v (X ++ R) m) : J w c l m t P := by
  have s2 := kt.sub.2.1
  have inD := @Wd.core_bank W
  have m7 := @Wd.mem W
  refine J.bnd (Res := fun v h' => ∃ ts', Core w W ts' h' ∧ Res v ts') n G R hN W.core (fun a ha => B.has a (inD a ha)) kt (fun g r h1 tk Q O ret => h g r h1 tk Q O (B.at_ _ _ _ O s2) (B.hi _ _ _ O s2) fun v h' tk' ts' K C' res => ret v h' tk' K ⟨ts', C', res⟩) ?_
  rintro v h0 h' R O K ⟨ts', C', res⟩ bd O'
  have hB := B.at_ _ _ _ O s2
  have hi := B.hi _ _ _ O s2
  have inst' : h'.get? W.bA = some (instObj 656 W.dA) := K _ _ wok.bN hB.inst
  have dict' : h'.get? W.dA = some (dictOf (bankEs w W) 14) := K _ _ wok.dN hB.dict
  have inR : ∀ a ∈ W.bank, ∀ o, h'.get? a = some o → (a, o) ∈ R := fun a ha o e => let ⟨_, hm⟩ := B.has a ha; bd.old kt O hm e
  refine k v ts' R res (C'.cases fun os as ss ds n1 n2 n3 n4 es ep xs C => ⟨fun h2 l2 m2 O2 s => ?_, fun _ _ _ _ _ => hi, fun a ha => ?_⟩)
  · have to : ∀ a ∈ W.bank, ∀ o, h'.get? a = some o → h2.get? a = some o := fun a ha o e => (O2.N _ (s _ (inR a ha o e))).1
    exact ⟨to _ m7.2.1 _ inst', to _ m7.1 _ dict', ⟨_, _, _, _, _, _, _, _, _, _, _, C.tup (bd.tup O2.F O2.N s) (to _ m7.2.2.1 _ C.ops) (to _ m7.2.2.2.1 _ C.args) (to _ m7.2.2.2.2.1 _ C.sorts) (to _ m7.2.2.2.2.2.1 _ C.datas) (to _ m7.2.2.2.2.2.2 _ C.nums)⟩⟩
  · have e : ∃ o, h'.get? a = some o := by
      simp only [Wd.bank, List.mem_cons, List.not_mem_nil, or_false] at ha
      rcases ha with rfl | rfl | rfl | rfl | rfl | rfl | rfl
      · exact ⟨_, dict'⟩
      · exact ⟨_, inst'⟩
      · exact ⟨_, C.ops⟩
      · exact ⟨_, C.args⟩
      · exact ⟨_, C.sorts⟩
      · exact ⟨_, C.datas⟩
      · exact ⟨_, C.nums⟩
    obtain ⟨o, e⟩ := e
    exact ⟨o, inR a ha o e⟩
end
end Mine

open PySem PySem.W PySem.Calls PyProof.Rows
set_option Elab.async false
set_option linter.all false
set_option maxRecDepth 100000
set_option maxHeartbeats 40000000
namespace Mine
theorem look {m1 m0 : Mp} {x y : Str} {v u : Value} (hm : ∀ y, y ≠ x → m1.lookup y = m0.lookup y) (hy : y ≠ x) (e : m0.lookup y = some u) : ((x, v) :: m1).lookup y = some u := by
  rw [List.lookup_cons, beq_eq_false_iff_ne.mpr hy]
  exact (hm y hy).trans e
theorem look_on {m1 m0 : Mp} {x : Str} {v : Value} (hm : ∀ y, y ≠ x → m1.lookup y = m0.lookup y) : ∀ y, y ≠ x → ((x, v) :: m1).lookup y = m0.lookup y := fun y hy => by
  rw [List.lookup_cons, beq_eq_false_iff_ne.mpr hy]
  exact hm y hy
theorem Cut.all {own : Led} : ∀ {D : Led}, Cut own (D ++ own) D
  | [] => .nil
  | _ :: _ => .keep Cut.all
noncomputable def Terms (ts : List Tm) (so : Int) (vs : List Value) : Prop := ∀ v ∈ vs, ∃ k kt t, v = .int k kt ∧ 0 ≤ k ∧ k < 1000 ∧ ts[k.toNat]? = some t ∧ t.sort = so
section
variable {w : World} {c : Cx} {l D X : Led} {m : Mp} {P : Value → Led → Mp → Prop} {N : Nat} {W : Wd} {ts : List Tm} {env : Env}
theorem J.ty {pos : Pos} {T : String} {e : Expr} {rest : List Expr} (k : J w c l m (spliced (backTo pos (starEach (e :: rest) env))) (fun vs l m => J w c l m (PySem.call (.type T) vs) P))
    (hs : autoParam (starEach (e :: rest) env = (false, eval e env) :: starEach rest env) Mine.aT3._auto_1) (hn : autoParam (((backTo pos (starEach rest env)).any fun x => x.1) = false) Mine.aT3._auto_1) : J w c l m (callWith pos (.type T) [] (backTo pos (starEach (e :: rest) env)) []) P := fun h tk O =>
  Pv.callWith_type1 (k.run O fun v l m h tk O p => p.run O fun v l m h tk O p => ⟨_, _, _, _, rfl, O, p⟩) hs hn
theorem J.tupOf {A : Addr} {vs : List Value} (hD : c.g.IsList A vs.toArray) (hz : vs.length ≤ 16384) (k : ∀ d, P (.ref d) ((d, tupO vs) :: l) m) : J w c l m (PySem.call (.type "tuple") [.ref A]) P := fun h tk O =>
  kde_tupleOf O.F O.N (hD.at fun o e => O.F.keep A o e) (by simpa using hz) (by simp) fun d h' F' N' lt => ⟨_, _, _, _, rfl, ⟨F', N', O.nd.cons lt⟩, k d⟩
theorem J.lenB {A : Addr} {its : Array Value} {k : Int} (hD : c.g.IsList A its) (hk : (its.size : Int) = k) (hz : k ≤ 16384) (h : ∀ t, P (.int k t) l m) : J w c l m (PySem.call (.builtin "len") [.ref A]) P := fun _ tk O =>
  kun_lenL (hD.at fun o e => O.F.keep A o e) hk hz ⟨_, _, _, _, rfl, O, h _⟩
theorem J.itemB {A : Addr} {vs : Array Value} {k : Int} {tk : Tok} {v : Value} {value slice : Expr} (hD : c.g.IsList A vs) (h0 : 0 ≤ k) (hk : k < 1000) (hx : vs[k.toNat]? = some v) (h : P v l m)
    (hs : autoParam (subscripted slice false (.ref A) (.int k tk) = operate [.ref A, .int k tk] (getItem (.ref A) (.int k tk))) Mine.aT4._auto_1) : J w c l m (subscriptTail value slice (.ref A) (.int k tk)) P := fun _ _ O =>
  have hL := hD.at fun o e => O.F.keep A o e
  tail_any hL.typeIs slot_list_getitem.lookup (wpAny_getItem_list hL h0 (by lia) hx ⟨_, _, _, _, rfl, O, h⟩) hs
theorem J.make {t : Tm} {aT : Addr} {dV : Value} {t1 t2 : Tok} (G : Gc w c) (R : Rm c N) (wok : W.Ok) (B : BkD w c W ts D) (kt : Kt D l X) (wf : t.wf) (Ag : ∀ h, Own c l m h → IsTupleKey (PySem.intKind PR w) h t.args aT) (Dg : ∀ h, Own c l m h → IsDt PR w h t.data dV) (hz : ts.length ≤ 900)
    (k : ∀ (k : Nat) tk ts' R, Mk ts t ts' k → BkD w c W ts' R → P (.int (k : Int) tk) (X ++ R) m) (hN : autoParam (3 ≤ N) Mine.aT2._auto_1) : J w c l m (PySem.call (.ref 270) [.ref W.bA, .str t.op t1, .ref aT, .int t.sort t2, dV]) P :=
  J.bank (Res := fun v ts' => ∃ (k : Nat) (tk : Tok), v = .int (k : Int) tk ∧ Mk ts t ts' k) 3 G R hN B wok kt
    (fun g r h _ _ O b hi ret => make_fn g O.F.keep r W wok b.inst b.dict b.core hi rfl rfl rfl rfl rfl t wf t1 t2 aT dV (Ag h O) (Dg h O) hz fun k tk _ _ _ M K C => ret _ _ _ _ K C ⟨k, tk, rfl, M⟩)
    fun v ts' R ⟨k', tk, e, M⟩ B' => by subst e; exact k k' tk ts' R M B'
end
section
variable {w : World} {mean : ExcName → Option Value} {mg mb : Str → Option Value} {dp un : Nat} {fr : Option (List Env)} {gd : Option (List Code)} {s : Shared} {E : Value → Shared → Prop} {Q : Value → Shared → Prop} {hb : Heap}
theorem want_all_fn (G : Gd w mean mg mb hb) (kp : ∀ b o, hb.get? b = some o → s.heap.get? b = some o) (R : Room dp un 6) (W : Wd) (wok : W.Ok) {ts : List Tm} (B : Bank w W ts s.heap) (hhi : ∀ a ∈ W.bank, hb.get? a = none) (pA n0 : Nat) (vs : List Value) (tk2 : Tok) (wh : Value) (so : Int)
    (hp : s.heap.get? pA = some (lsO vs.toArray n0)) (hn : pA ∉ W.bank) (hall : Terms ts so vs)
    (hret : ∀ h' tk', Keep [] s.heap h' → Q .none { s with heap := h', toks := tk' }) :
    wpAny (model PySem.Challenge.rw_sj0101_01.row.prog w) (AR dp un fr gd) (call (.ref 298) [.ref W.bA, .ref pA, .int so tk2, wh]) Q E s := by
  have X₀ := G.X
  revert X₀
  k_fill
  intro X₀
  clear X₀
  refine B.core.cases fun os as ss ds n1 n2 n3 n4 nes nep xs C => ?_
  have ND := Bank.ND wok B hhi C
  refine call_J (n := 5) _ [((Str.ofString "self"), .ref W.bA), ((Str.ofString "some"), .ref pA), ((Str.ofString "s"), .int so tk2), ((Str.ofString "where"), wh)] R G kp ND wok.nd ?_
  intro c G R he en
  have Bk := bkD C (en.tup ND noT7)
  dsimp only [List.reverse, List.reverseAux]
  repeat' (k_extra "j")
  refine J.forL he 5 R (fun _ l1 m1 => l1 = led7 w W os as ss ds n1 n2 n3 n4 nes nep ∧ ∀ y, y ≠ (Str.ofString "t") → m1.lookup y = List.lookup y [((Str.ofString "where"), wh), ((Str.ofString "s"), .int so tk2), ((Str.ofString "some"), .ref pA), ((Str.ofString "self"), .ref W.bA)]) ?_
  repeat' (k_extra "j")
  refine ⟨pA, vs.toArray, rfl, ⟨_, en.gs _ _ hn hp, rfl, _, rfl⟩, ⟨rfl, fun _ _ => rfl⟩, ?_, ?_⟩
  · rintro i v l1 m1 own hv ⟨rfl, hm⟩ off
    obtain ⟨k, kt, t, rfl, h0, h1, ht, hs⟩ := hall v (List.mem_of_getElem? (by simpa using hv))
    k_with "wa_MPlus" => ((with_reducible refine (?_ : J _ _ _ _ (eval (.Name _ _) _) _)); refine J.name he (look hm (by decide) rfl) ?_)
    k_with "wa_MPlus" => ((with_reducible refine (?_ : J _ _ _ _ (PySem.call (.ref 291) _) _)); refine J.want G R wok Bk (fun p hp => List.mem_append_left _ hp) h0 h1 ht hs ?_)
    repeat' (first | k_extra "wa_MPlus" | k_extra "j")
    exact ⟨.inl rfl, _, Cut.all, rfl, look_on hm⟩
  · rintro l1 m1 ⟨rfl, hm⟩
    repeat' (k_extra "j")
    intro h9 tk8 O9 K9
    exact hret _ _ (keep0 K9 ND O9 (fun p hp => hp))
end
section
variable {w : World} {c : Cx} {l D X : Led} {m : Mp} {P : Value → Led → Mp → Prop} {N : Nat} {W : Wd} {ts : List Tm} {env : Env}
theorem J.wantA {A n0 : Nat} {vs : List Value} {tk2 : Tok} {wh : Value} {so : Int} (G : Gc w c) (R : Rm c N) (wok : W.Ok) (B : BkD w c W ts D) (s : ∀ p ∈ D, p ∈ l) (hp : c.g.get? A = some (lsO vs.toArray n0)) (hn : A ∉ W.bank) (hall : Terms ts so vs) (h : P .none l m) (hN : autoParam (6 ≤ N) Mine.aT2._auto_1) :
    J w c l m (PySem.call (.ref 298) [.ref W.bA, .ref A, .int so tk2, wh]) P :=
  J.con 6 G R hN fun g r _ _ _ O ret => want_all_fn g O.F.keep r W wok (B.at_ _ _ _ O s) (B.hi _ _ _ O s) A n0 vs tk2 wh so (O.F.keep _ _ hp) hn hall fun _ _ K => ret _ _ _ K fun _ => h
end
section
variable {w : World} {mean : ExcName → Option Value} {mg mb : Str → Option Value} {dp un : Nat} {fr : Option (List Env)} {gd : Option (List Code)} {s : Shared} {E : Value → Shared → Prop} {Q : Value → Shared → Prop} {hb : Heap}
theorem plus_fn (G : Gd w mean mg mb hb) (kp : ∀ b o, hb.get? b = some o → s.heap.get? b = some o) (R : Room dp un 10) (W : Wd) (wok : W.Ok) {ts : List Tm} (B : Bank w W ts s.heap) (hhi : ∀ a ∈ W.bank, hb.get? a = none) (pA n0 : Nat) (v0 v1 : Value) (vs : List Value) (ns : List Int) (so : Int)
    (hp : s.heap.get? pA = some (lsO (v0 :: v1 :: vs).toArray n0)) (hn : pA ∉ W.bank) (hl : (v0 :: v1 :: vs).length ≤ 1000) (hI : IntsAre (v0 :: v1 :: vs) ns) (hall : Terms ts so (v0 :: v1 :: vs)) (hso : so = 1 ∨ so = 2) (hz : ts.length ≤ 900)
    (hret : ∀ (k : Nat) tk h' tk' ts', Mk ts ⟨Str.ofString "+", ns, so, .i 0⟩ ts' k → Keep W.core s.heap h' → Core w W ts' h' → Q (.int (k : Int) tk) { s with heap := h', toks := tk' }) :
    wpAny (model PySem.Challenge.rw_sj0101_01.row.prog w) (AR dp un fr gd) (call (.ref 478) [.ref W.bA, .ref pA]) Q E s := by
  have X₀ := G.X
  revert X₀
  k_fill
  intro X₀
  clear X₀
  refine B.core.cases fun os as ss ds n1 n2 n3 n4 nes nep xs C => ?_
  have ND := Bank.ND wok B hhi C
  obtain ⟨k0, kt0, t0, rfl, h0, h1, ht, hs⟩ := hall v0 (.head _)
  obtain ⟨stk, q1⟩ := C.sortAt ht
  refine call_J (n := 9) _ [((Str.ofString "self"), .ref W.bA), ((Str.ofString "some"), .ref pA)] R G kp ND wok.nd ?_
  intro c G R he en
  have Bk := bkD C (en.tup ND noT7)
  have hL : c.g.get? pA = some (lsO (.int k0 kt0 :: v1 :: vs).toArray n0) := en.gs _ _ hn hp
  have hL' : c.g.IsList pA (.int k0 kt0 :: v1 :: vs).toArray := ⟨_, hL, rfl, _, rfl⟩
  dsimp only [List.reverse, List.reverseAux]
  k_with "plus_MPlus" => ((with_reducible refine (?_ : J _ _ _ _ (subscriptTail _ _ (.ref pA) _) _)); refine J.itemB hL' (by decide) (by decide) rfl ?_)
  k_with "plus_MPlus" => ((with_reducible refine (?_ : J _ _ _ _ (PySem.call (.builtin "len") _) _)); refine J.lenB (k := (vs.length : Int) + 2) hL' (by simp; lia) (by simp at hl; lia) ?_; intro t_l)
  k_with "plus_MPlus" => ((with_reducible refine (?_ : J _ _ _ _ (PySem.call (.ref 471) _) _)); refine J.wantN G R wok Bk (by k_extra "sub") h0 h1 ht (hs ▸ hso) ?_)
  k_with "plus_MPlus" => ((with_reducible refine (?_ : J _ _ _ _ (PySem.call (.ref 298) _) _)); refine J.wantA G R wok Bk (by k_extra "sub") hL hn (hs ▸ hall) ?_)
  k_with "plus_MPlus" => ((with_reducible refine (?_ : J _ _ _ _ (callWith _ (.type _) _ _ _) _)); refine J.ty ?_)
  k_with "plus_MPlus" => ((with_reducible refine (?_ : J _ _ _ _ (PySem.call (.type "tuple") _) _)); refine J.tupOf hL' (by lia) ?_; intro d_l)
  k_with "plus_MPlus" => ((with_reducible refine (?_ : J _ _ _ _ (PySem.call (.ref 270) _) _)); refine J.make (t := ⟨Str.ofString "+", ns, t0.sort, .i 0⟩) G R wok Bk (.drop .nil) (wf_i (by decide)) (fun h O => items_int (O.N.get (.head _)) hI) (fun h O => ⟨_, rfl⟩) hz ?_; intro k9 tk9 ts9 R9 M9 B9)
  repeat' (first | k_extra "plus_MPlus" | k_extra "j")
  intro h9 tk8 O9 K9
  have b9 := B9.at_ _ _ _ O9 (fun p hp => hp)
  have mc := @Wd.memC W
  subst hs
  exact hret _ _ _ _ _ M9 (K9.less (fun p hp => (ND p hp).1) (all7 (.inr b9.dict) (.inr b9.inst) (.inl mc.1) (.inl mc.2.1) (.inl mc.2.2.1) (.inl mc.2.2.2.1) (.inl mc.2.2.2.2))) b9.core
end
end Mine

open PySem PySem.W PySem.Calls PyProof.Rows
set_option Elab.async false
set_option linter.all false
set_option maxRecDepth 100000
set_option maxHeartbeats 40000000
namespace Mine
theorem fdiv_small {x : Int} (h0 : 0 ≤ x) (h1 : x ≤ 100) : ¬ 0 < x.fdiv (2 ^ Int.toNat 65536) := by
  have e : (2 ^ Int.toNat 65536 : Int) = ((2 ^ 65536 : Nat) : Int) := by
    rw [Int.natCast_pow]; rfl
  have h2 : (2 : Nat) ^ 7 ≤ 2 ^ 65536 := Nat.pow_le_pow_right (by lia) (by lia)
  rw [e]
  generalize (2 : Nat) ^ 65536 = n at h2 ⊢
  rw [Int.fdiv_eq_ediv_of_nonneg _ (by lia), Int.ediv_eq_zero_of_lt h0 (by lia)]
  lia
section
variable {w : World} {c : Cx} {l : Led} {m : Mp} {P : Value → Led → Mp → Prop}
theorem J.shr {x y : Int} {t u : Tok} (hy : 0 ≤ y) (k : ∀ t, P (.int (x.fdiv (2 ^ y.toNat)) t) l m) : J w c l m (binaryOp .RShift (.int x t) (.int y u)) P := fun h tk O => rshift_int hy ⟨_, _, _, _, rfl, O, k _⟩
end
section
variable {w : World} {mean : ExcName → Option Value} {mg mb : Str → Option Value} {dp un : Nat} {fr : Option (List Env)} {gd : Option (List Code)} {s : Shared} {E : Value → Shared → Prop} {Q : Value → Shared → Prop} {hb : Heap}
theorem want_small_fn (G : Gd w mean mg mb hb) (kp : ∀ b o, hb.get? b = some o → s.heap.get? b = some o) (R : Room dp un 3) (a : Nat) (p q : Int) (t1 t2 : Tok) (ha : s.heap.get? a = some (tupO [.int p t1, .int q t2])) (hp : -100 ≤ p ∧ p ≤ 100) (hq : 0 < q ∧ q ≤ 100)
    (hret : ∀ h' tk', Keep [] s.heap h' → Q .none { s with heap := h', toks := tk' }) :
    wpAny (model PySem.Challenge.rw_sj0101_01.row.prog w) (AR dp un fr gd) (call (.ref 450) [.ref a]) Q E s := by
  have X₀ := G.X
  revert X₀
  k_fill
  intro X₀
  clear X₀
  refine call_J (n := 2) [] [((Str.ofString "value"), .ref a)] R G kp (fun _ h => nomatch h) .nil ?_
  intro c G R he en
  dsimp only [List.reverse, List.reverseAux]
  have ha := en.gs _ _ List.not_mem_nil ha
  have z1 : ¬ 0 < (if p < 0 then -p else p).fdiv (2 ^ Int.toNat 65536) := by
    split
    · exact fdiv_small (by lia) (by lia)
    · exact fdiv_small (by lia) (by lia)
  have z2 : ¬ 0 < q.fdiv (2 ^ Int.toNat 65536) := fdiv_small (by lia) (by lia)
  k_with "sm_MNum" => ((with_reducible refine (?_ : J _ _ _ _ (PySem.call (.builtin "abs") _) _)); refine J.absInt ?_; intro t_l)
  k_with "sm_MNum" => ((with_reducible refine J.shr ?_ ?_); (focus decide); intro t_l)
  repeat' (first | k_extra "sm_MNum" | k_extra "j")
  intro h tk O K
  exact hret _ _ K
end
section
variable {w : World} {mean : ExcName → Option Value} {mg mb : Str → Option Value} {dp un : Nat} {fr : Option (List Env)} {gd : Option (List Code)} {s : Shared} {E : Value → Shared → Prop} {Q : Value → Shared → Prop} {hb : Heap}
section
variable {w : World} {c : Cx} {l D X : Led} {m : Mp} {P : Value → Led → Mp → Prop} {N : Nat} {a : Addr} {t1 t2 : Tok}
theorem J.whole1 {x : Int × Int} (G : Gc w c) (R : Rm c N) (ha : c.g.get? a = some (tupO [.int x.1 t1, .int x.2 t2])) (hx : x.2 = 1) (h : P (.bool true) l m) (hN : autoParam (3 ≤ N) Mine.aT2._auto_1) : J w c l m (PySem.call (.ref 123) [.ref a]) P :=
  J.con 3 G R hN fun g r _ _ _ O ret => is_whole_fn g O.F.keep r a x t1 t2 (O.F.keep _ _ ha) fun _ _ K => ret _ _ _ K fun _ => by rw [hx]; exact h
theorem J.small {x : Int × Int} (G : Gc w c) (R : Rm c N) (ha : c.g.get? a = some (tupO [.int x.1 t1, .int x.2 t2])) (hp : -100 ≤ x.1 ∧ x.1 ≤ 100) (hq : 0 < x.2 ∧ x.2 ≤ 100) (h : P .none l m) (hN : autoParam (3 ≤ N) Mine.aT2._auto_1) : J w c l m (PySem.call (.ref 450) [.ref a]) P :=
  J.con 3 G R hN fun g r _ _ _ O ret => want_small_fn g O.F.keep r a x.1 x.2 t1 t2 (O.F.keep _ _ ha) hp hq fun _ _ K => ret _ _ _ K fun _ => h
end
theorem num_fn (G : Gd w mean mg mb hb) (kp : ∀ b o, hb.get? b = some o → s.heap.get? b = some o) (R : Room dp un 10) (W : Wd) (wok : W.Ok) {ts : List Tm} (B : Bank w W ts s.heap) (hhi : ∀ a ∈ W.bank, hb.get? a = none) (a : Nat) (x : Int × Int) (t1 t2 : Tok) (so : Int) (tk2 : Tok) (ha : s.heap.get? a = some (tupO [.int x.1 t1, .int x.2 t2])) (hp : -100 ≤ x.1 ∧ x.1 ≤ 100) (hq : 0 < x.2 ∧ x.2 ≤ 100) (hso : so = 1 ∨ so = 2) (hw : so = 1 → x.2 = 1) (hz : ts.length ≤ 900)
    (hret : ∀ (k : Nat) tk h' tk' ts', Mk ts ⟨Str.ofString "num", [], so, .r x.1 x.2⟩ ts' k → Keep W.core s.heap h' → Core w W ts' h' → Q (.int (k : Int) tk) { s with heap := h', toks := tk' }) :
    wpAny (model PySem.Challenge.rw_sj0101_01.row.prog w) (AR dp un fr gd) (call (.ref 464) [.ref W.bA, .ref a, .int so tk2]) Q E s := by
  have X₀ := G.X
  revert X₀
  k_fill
  intro X₀
  clear X₀
  refine B.core.cases fun os as ss ds n1 n2 n3 n4 nes nep xs C => ?_
  have ND := Bank.ND wok B hhi C
  refine call_J (n := 9) _ [((Str.ofString "self"), .ref W.bA), ((Str.ofString "value"), .ref a), ((Str.ofString "s"), .int so tk2)] R G kp ND wok.nd ?_
  intro c G R he en
  have tk0 := en.tup ND noT7
  have Bk := bkD C tk0
  have ha := tk0 _ _ _ _ ha rfl rfl
  dsimp only [List.reverse, List.reverseAux]
  k_with "num_MNum" => ((with_reducible refine (?_ : J _ _ _ _ (PySem.call (.ref 165) _) _)); refine J.isNum G R hso ?_)
  k_with "num_MNum" => ((with_reducible refine (?_ : J _ _ _ _ (PySem.call (.ref 123) _) _)); refine J.whole1 G R ha (hw (by assumption)) ?_)
  k_with "num_MNum" => ((with_reducible refine (?_ : J _ _ _ _ (PySem.call (.ref 450) _) _)); refine J.small G R ha hp hq ?_)
  k_with "num_MNum" => ((with_reducible refine (?_ : J _ _ _ _ (PySem.call (.ref 270) _) _)); refine J.make (t := ⟨Str.ofString "num", [], so, .r x.1 x.2⟩) G R wok Bk (.drop .nil) wf_r (fun h O => items_int (O.N.get (.head _)) .nil) (fun h O => ⟨_, rfl, items_int (O.F.keep _ _ ha) (IntsAre.cons _ _ (IntsAre.cons _ _ IntsAre.nil))⟩) hz ?_; intro k9 tk9 ts9 R9 M9 B9)
  repeat' (first | k_extra "num_MNum" | k_extra "j")
  all_goals (
    intro h9 tk8 O9 K9
    rename BkD w _ W _ _ => B9
    have b9 := B9.at_ _ _ _ O9 (fun p hp => hp)
    have mc := @Wd.memC W
    exact hret _ _ _ _ _ (by assumption) (K9.less (fun p hp => (ND p hp).1) (all7 (.inr b9.dict) (.inr b9.inst) (.inl mc.1) (.inl mc.2.1) (.inl mc.2.2.1) (.inl mc.2.2.2.1) (.inl mc.2.2.2.2))) b9.core)
end
section
variable {w : World} {c : Cx} {l D X : Led} {m : Mp} {P : Value → Led → Mp → Prop} {N : Nat} {W : Wd} {ts : List Tm} {a : Addr} {t1 t2 tk2 : Tok}
theorem J.num {x : Int × Int} {so : Int} (G : Gc w c) (R : Rm c N) (wok : W.Ok) (B : BkD w c W ts D) (kt : Kt D l X) (ha : c.g.get? a = some (tupO [.int x.1 t1, .int x.2 t2])) (hp : -100 ≤ x.1 ∧ x.1 ≤ 100) (hq : 0 < x.2 ∧ x.2 ≤ 100) (hso : so = 1 ∨ so = 2) (hw : so = 1 → x.2 = 1) (hz : ts.length ≤ 900)
    (k : ∀ (k : Nat) tk ts' R, Mk ts ⟨Str.ofString "num", [], so, .r x.1 x.2⟩ ts' k → BkD w c W ts' R → P (.int (k : Int) tk) (X ++ R) m) (hN : autoParam (10 ≤ N) Mine.aT2._auto_1) : J w c l m (PySem.call (.ref 464) [.ref W.bA, .ref a, .int so tk2]) P :=
  J.bank (Res := fun v ts' => ∃ (k : Nat) (tk : Tok), v = .int (k : Int) tk ∧ Mk ts ⟨Str.ofString "num", [], so, .r x.1 x.2⟩ ts' k) 10 G R hN B wok kt
    (fun g r h _ _ O b hi ret => num_fn g O.F.keep r W wok b hi a x t1 t2 so tk2 (O.F.keep _ _ ha) hp hq hso hw hz fun k tk _ _ _ M K C => ret _ _ _ _ K C ⟨k, tk, rfl, M⟩)
    fun v ts' R ⟨k', tk, e, M⟩ B' => by subst e; exact k k' tk ts' R M B'
end
end Mine

open PySem PySem.W PySem.Calls PyProof.Rows
set_option Elab.async false
set_option linter.all false
set_option maxRecDepth 100000
set_option maxHeartbeats 40000000
namespace Mine
theorem pair_eq {prog : Program} {w : World} {A : Around} {s : Shared} {E : Value → Shared → Prop} {Q : Value → Shared → Prop} {x y : List Int} {a b : Addr} (hu : A.units < cLine) (hx : IsTupleKey (PySem.intKind prog w) s.heap x a) (hy : IsTupleKey (PySem.intKind prog w) s.heap y b)
    (v : Bool) (hv : decide (x = y) = v) (h : Q (.bool v) s) : wpAny (model prog w) A (compareOp .Eq (.ref a) (.ref b)) Q E s :=
  cmp_ofEq (wpAny_richCompare_same_room (op := .Eq) hx.typeIs hy.typeIs PySem.F.slot_tuple_eq
      (wpAny_call_entry PySem.F.slot_tuple_eq hx.typeIs PySem.F.entry_tuple_eq (tuple_eq_tree hx hy ⟨_, rfl, (fun e => nomatch e), by rw [hv]; exact h⟩) (PySem.F.args_tuple_eq_2 _ _)) hu)
theorem mk_len {ts ts' : List Tm} {t : Tm} {k : Nat} (M : Mk ts t ts' k) (h : ts.length ≤ 890) : ts'.length ≤ 900 := by
  rcases M with ⟨rfl, _, _⟩ | ⟨_, rfl, _⟩
  · lia
  · simp; lia
theorem J.pairEq {w : World} {c : Cx} {l : Led} {m : Mp} {P : Value → Led → Mp → Prop} {N : Nat} {x y : List Int} {a b : Addr} (R : Rm c (N + 1)) (hx : ∀ h, Own c l m h → IsTupleKey (PySem.intKind PR w) h x a) (hy : ∀ h, Own c l m h → IsTupleKey (PySem.intKind PR w) h y b)
    (v : Bool) (hv : decide (x = y) = v) (k : P (.bool v) l m) : J w c l m (compareOp .Eq (.ref a) (.ref b)) P := fun h tk O => pair_eq (by have := R.units; lia) (hx h O) (hy h O) v hv ⟨_, _, _, _, rfl, O, k⟩
section
variable {w : World} {mean : ExcName → Option Value} {mg mb : Str → Option Value} {dp un : Nat} {fr : Option (List Env)} {gd : Option (List Code)} {s : Shared} {E : Value → Shared → Prop} {Q : Value → Shared → Prop} {hb : Heap}
theorem times_num_fn (G : Gd w mean mg mb hb) (kp : ∀ b o, hb.get? b = some o → s.heap.get? b = some o) (R : Room dp un 14) (W : Wd) (wok : W.Ok) {ts : List Tm} (B : Bank w W ts s.heap) (hhi : ∀ a ∈ W.bank, hb.get? a = none) (a : Nat) (x : Int × Int) (t1 t2 : Tok) (ha : s.heap.get? a = some (tupO [.int x.1 t1, .int x.2 t2])) (hp : -100 ≤ x.1 ∧ x.1 ≤ 100) (hq : 0 < x.2 ∧ x.2 ≤ 100)
    (k : Int) (tk : Tok) (t : Tm) (so : Int) (h0 : 0 ≤ k) (h1 : k < 1000) (ht : ts[k.toNat]? = some t) (ho : t.op ≠ Str.ofString "num") (hs : t.sort = so) (hso : so = 1 ∨ so = 2) (hw : so = 1 → x.2 = 1) (hz : ts.length ≤ 890)
    (hone : x = (1, 1) → ∀ h' tk', Keep [] s.heap h' → Q (.int k tk) { s with heap := h', toks := tk' })
    (hret : x ≠ (1, 1) → ∀ (k1 k2 : Nat) tk h' tk' ts' ts'', Mk ts ⟨Str.ofString "num", [], so, .r x.1 x.2⟩ ts' k1 → Mk ts' ⟨Str.ofString "*", [k1, k], so, .i 0⟩ ts'' k2 → Keep W.core s.heap h' → Core w W ts'' h' → Q (.int (k2 : Int) tk) { s with heap := h', toks := tk' }) :
    wpAny (model PySem.Challenge.rw_sj0101_01.row.prog w) (AR dp un fr gd) (call (.ref 485) [.ref W.bA, .ref a, .int k tk]) Q E s := by
  subst hs
  have X₀ := G.X
  revert X₀
  k_fill
  intro X₀
  clear X₀
  refine B.core.cases fun os as ss ds n1 n2 n3 n4 nes nep xs C => ?_
  have ND := Bank.ND wok B hhi C
  obtain ⟨otk, q1⟩ := C.opAt ht
  obtain ⟨stk, q3⟩ := C.sortAt ht
  refine call_J (n := 13) _ [((Str.ofString "self"), .ref W.bA), ((Str.ofString "value"), .ref a), ((Str.ofString "t"), .int k tk)] R G kp ND wok.nd ?_
  intro c G R he en
  have tk0 := en.tup ND noT7
  have Bk := bkD C tk0
  have ha := tk0 _ _ _ _ ha rfl rfl
  dsimp only [List.reverse, List.reverseAux]
  obtain ⟨b, hb1⟩ : ∃ b, decide ([x.1, x.2] = [1, 1]) = b := ⟨_, rfl⟩
  k_with "tm_MTimes" => ((with_reducible refine (?_ : J _ _ _ _ (PySem.call (.ref 471) _) _)); refine J.wantN G R wok Bk (by k_extra "sub") h0 h1 ht hso ?_)
  k_with "tm_MTimes" => ((with_reducible refine (?_ : J _ _ _ _ (compareOp .Eq (.ref _) (.ref _)) _)); refine J.pairEq R (fun h O => items_int (O.F.keep _ _ ha) (IntsAre.cons _ _ (IntsAre.cons _ _ IntsAre.nil))) (fun h O => items_int (O.N.get (.head _)) (IntsAre.cons _ _ (IntsAre.cons _ _ IntsAre.nil))) _ hb1 ?_)
  k_with "tm_MTimes" => ((with_reducible refine (?_ : J _ _ _ _ (PySem.call (.ref 464) _) _)); refine J.num G R wok Bk (.drop .nil) ha hp hq hso hw (by lia) ?_; intro k9 tk9 ts9 R9 M9 B9)
  k_with "tm_MTimes" => ((with_reducible refine (?_ : J _ _ _ _ (PySem.call (.ref 270) _) _)); refine J.make (t := ⟨Str.ofString "*", [_, k], t.sort, .i 0⟩) G R wok (by assumption) (.drop .nil) (wf_i (by decide)) (fun h O => items_int (O.N.get (.head _)) (IntsAre.cons _ _ (IntsAre.cons _ _ IntsAre.nil))) (fun h O => ⟨_, rfl⟩) (mk_len (by assumption) hz) ?_; intro k8 tk8 ts8 R8 M8 B8)
  cases b with
  | true =>
    repeat' (first | k_extra "tm_MTimes" | k_extra "j")
    intro h9 tk8 O9 K9
    have hx2 : x = (1, 1) := by
      have := of_decide_eq_true hb1
      simp only [List.cons.injEq, and_true] at this
      exact Prod.ext this.1 this.2
    exact hone hx2 _ _ (keep0 K9 ND O9 (fun p hp => .tail _ hp))
  | false =>
    repeat' (first | k_extra "tm_MTimes" | k_extra "j")
    intro h9 tk8 O9 K9
    rename BkD w _ W _ _ => B9
    have b9 := B9.at_ _ _ _ O9 (fun p hp => hp)
    have mc := @Wd.memC W
    have hx2 : x ≠ (1, 1) := by
      rintro rfl
      exact absurd hb1 (by decide)
    exact hret hx2 _ _ _ _ _ _ _ (by assumption) (by assumption) (K9.less (fun p hp => (ND p hp).1) (all7 (.inr b9.dict) (.inr b9.inst) (.inl mc.1) (.inl mc.2.1) (.inl mc.2.2.1) (.inl mc.2.2.2.1) (.inl mc.2.2.2.2))) b9.core
end
end Mine

open PySem PySem.W PySem.Calls PyProof.Rows
set_option Elab.async false
set_option linter.all false
set_option maxRecDepth 100000
set_option maxHeartbeats 40000000
namespace Mine
noncomputable def lkv {K : Type} [DecidableEq K] : List (K × Value) → K → Option Value
  | [], _ => none
  | (a, v) :: r, k => match decide (a = k) with
    | true => some v
    | false => lkv r k
theorem lkv_eq {K : Type} [DecidableEq K] (k : K) : ∀ kvs : List (K × Value), valueAt kvs k = lkv kvs k
  | [] => rfl
  | (a, v) :: r => by
    have ih := lkv_eq k r
    unfold valueAt at ih ⊢
    unfold lkv
    rw [List.find?_cons]
    cases decide (a = k) with
    | true => rfl
    | false => exact ih
section
variable {w : World} {c : Cx} {l : Led} {m : Mp} {P : Value → Led → Mp → Prop} {PU : Unit → Led → Mp → Prop} {K : Type} [DecidableEq K] {knd : KeyKind PR w K} {kvs : List (K × Value)} {k : K} {key v dflt : Value} {d : Addr} {o : Obj} {gg : Obj → Led}
theorem J.kitem (knd : KeyKind PR w K) {value slice : Expr} (i : Nat) (h1 : nth l i = some (d, o)) (hd : o.IsDictOf knd kvs) (hk : knd.is k key = true) (hl : lkv kvs k = some v) (h : P v l m)
    (hs : autoParam (subscripted slice false (.ref d) key = operate [.ref d, key] (getItem (.ref d) key)) Mine.aT4._auto_1) (hg : autoParam (∀ r, letTemporaryGo value (.ref d) r = pure ()) Mine.aT10._auto_1) :
    J w c l m (subscriptTail value slice (.ref d) key) P := fun _ _ O => kda_item O.N (nth_mem h1) hd hk ((lkv_eq k kvs).trans hl) ⟨_, _, _, _, rfl, O, h⟩ hs hg
theorem J.kset (knd : KeyKind PR w K) (u : UpF d o l gg) (hd : o.IsDictOf knd kvs) (hk : knd.is k key = true) (hz : kvs.length ≤ 16777216) (h : ∀ o', o'.IsDictOf knd (stored kvs k v) → PU () (gg o') m) : J w c l m (setItem (.ref d) key v) PU := fun _ _ O =>
  kda_set O.F O.N (u.upd O.nd) hd hk (by rw [sizeLine_eq]; exact hz) fun h' o' F' N' hd' => ⟨_, _, _, _, rfl, ⟨F', N', (u.up o').nd O.nd⟩, h o' hd'⟩
theorem J.kin (knd : KeyKind PR w K) (i : Nat) (h1 : nth l i = some (d, o)) (lo : (d == sysModules) = false) (hd : o.IsDictOf knd kvs) (hk : knd.is k key = true) (b : Bool) (hb : (valueAt kvs k).isSome = b) (h : P (.bool b) l m) : J w c l m (compareOp .In key (.ref d)) P := fun _ _ O =>
  kda_in O.N (nth_mem h1) hd lo hk b hb ⟨_, _, _, _, rfl, O, h⟩
theorem J.kmeth {PM : Value × List Value → Led → Mp → Prop} {pl : Sem Bool} (knd : KeyKind PR w K) (i : Nat) (h1 : nth l i = some (d, o)) (hd : o.IsDictOf knd kvs) (h : PM (.builtin "dict.get", [.ref d]) l m) : J w c l m (getMethod (.ref d) (Str.ofString "get") pl) PM := fun _ _ O =>
  kdg_method O.N (nth_mem h1) hd ⟨_, _, _, _, rfl, O, h⟩
theorem J.kget (knd : KeyKind PR w K) (i : Nat) (h1 : nth l i = some (d, o)) (lo : (d == sysModules) = false) (hd : o.IsDictOf knd kvs) (hk : knd.is k key = true) (x : Option Value) (hl : valueAt kvs k = x) (h : P (x.getD dflt) l m) : J w c l m (PySem.call (.builtin "dict.get") [.ref d, key, dflt]) P := fun _ _ O =>
  kdg_get2 O.N (nth_mem h1) hd lo hk x hl ⟨_, _, _, _, rfl, O, h⟩
end
end Mine

open PySem PySem.W PySem.Calls PyProof.Rows
set_option Elab.async false
set_option linter.all false
set_option maxRecDepth 100000
set_option maxHeartbeats 40000000
namespace Mine
noncomputable def FeedO (w : World) (ceA : Addr) (i : Nat) (o : Obj) : Prop := ∃ t, o.IsDictOf (PySem.strKind PR w) [(Str.ofString "cells", .ref ceA), (Str.ofString "at", .int (i : Int) t)]
structure Feed (w : World) (feA ceA : Addr) (i : Nat) (h : Heap) : Prop where
  cells : ∃ vs ns n, h.get? ceA = some (lsO vs n) ∧ IntsAre vs.toList ns ∧ vs.size ≤ 100
  feed : ∃ o, h.get? feA = some o ∧ FeedO w ceA i o
section
variable {w : World} {mean : ExcName → Option Value} {mg mb : Str → Option Value} {dp un : Nat} {fr : Option (List Env)} {gd : Option (List Code)} {s : Shared} {E : Value → Shared → Prop} {Q : Value → Shared → Prop} {hb : Heap}
theorem pick_fn (G : Gd w mean mg mb hb) (kp : ∀ b o, hb.get? b = some o → s.heap.get? b = some o) (R : Room dp un 3) (feA ceA i : Nat) (Fd : Feed w feA ceA i s.heap) (ne : feA < ceA) (hhi : hb.get? feA = none) (hhc : hb.get? ceA = none) (hi : i ≤ 900) (wide : Int) (tkw : Tok) (hw : 0 < wide ∧ wide ≤ 3000)
    (hret : ∀ c tk h' tk', 0 ≤ c → c < wide → Keep [feA] s.heap h' → Feed w feA ceA (i + 1) h' → Q (.int c tk) { s with heap := h', toks := tk' }) :
    wpAny (model PySem.Challenge.rw_sj0101_01.row.prog w) (AR dp un fr gd) (call (.ref 758) [.ref feA, .int wide tkw]) Q E s := by
  have X₀ := G.X
  revert X₀
  k_fill
  intro X₀
  clear X₀
  obtain ⟨⟨vs, ns, n, hc, hin, hsz⟩, o, ho, t, hd⟩ := Fd
  have ND : ∀ p ∈ [(feA, o), (ceA, lsO vs n)], s.heap.get? p.1 = some p.2 ∧ hb.get? p.1 = none := by
    intro p hp
    simp only [List.mem_cons, List.not_mem_nil, or_false] at hp
    rcases hp with rfl | rfl
    · exact ⟨ho, hhi⟩
    · exact ⟨hc, hhc⟩
  refine call_J (n := 2) _ [((Str.ofString "feed"), .ref feA), ((Str.ofString "wide"), .int wide tkw)] R G kp ND (List.pairwise_cons.mpr ⟨fun q hq e => absurd (e.trans (congrArg Prod.fst (List.mem_singleton.mp hq))) (Nat.ne_of_lt ne), List.pairwise_singleton _ _⟩) ?_
  intro c G R he en
  dsimp only [List.reverse, List.reverseAux]
  have hw0 : wide ≠ 0 := (Int.ne_of_lt hw.1).symm
  have hi0 : (0 : Int) ≤ (i : Int) := Int.natCast_nonneg i
  have hi1 : (i : Int) < 1000 := by lia
  have hm5 : IntMulOk 5 (i : Int) := mulOk (k := 10) (by decide) (by lia) (by decide) (by decide)
  have fin : ∀ o' (x : Int) (tx : Tok), o'.IsDictOf (PySem.strKind PR w) [(Str.ofString "cells", .ref ceA), (Str.ofString "at", .int ((i + 1 : Nat) : Int) tx)] → ∀ (mm : Mp) t h tk, Own c [(feA, o'), (ceA, lsO vs n)] mm h → Keep ([(feA, o), (ceA, lsO vs n)].map (·.1)) s.heap h →
      Q (retOf (.ret (.int (x.fmod wide) t))) { s with heap := h, toks := tk } := by
    intro o' x tx D9 mm t h tk O K
    refine hret _ _ _ _ (Int.fmod_nonneg_of_pos _ hw.1) (Int.fmod_lt_of_pos _ hw.1) (K.less (fun p hp => (ND p hp).1) ?_) ⟨⟨vs, ns, n, O.N.get (.tail _ (.head _)), hin, hsz⟩, _, O.N.get (.head _), _, D9⟩
    intro p hp
    simp only [List.mem_cons, List.not_mem_nil, or_false] at hp
    rcases hp with rfl | rfl
    · exact .inl (.head _)
    · exact .inr (O.N.get (.tail _ (.head _)))
  k_with "pick_MPick" => ((with_reducible refine (?_ : J _ _ _ _ (subscriptTail _ _ (Value.ref _) (Value.str _ _)) _)); refine J.kitem (PySem.strKind PR w) _ (by k_extra "nth") (by assumption) (strKind_is _ _ _ _) rfl ?_)
  k_with "pick_MPick" => ((with_reducible refine (?_ : J _ _ _ _ (setItem (Value.ref _) (Value.str _ _) _) _)); refine J.kset (PySem.strKind PR w) (by k_extra "upf") (by assumption) (strKind_is _ _ _ _) (Nat.le_of_ble_eq_true rfl) ?_; intro o9 D9)
  by_cases hlt : i < vs.size
  · have hlt' : (i : Int) < (vs.size : Int) := Int.ofNat_lt.mpr hlt
    obtain ⟨x, tx, hx⟩ : ∃ x tx, vs[(i : Int).toNat]? = some (.int x tx) := by
      have : i < ns.length := by rw [← hin.length]; simpa using hlt
      obtain ⟨tx, e⟩ := hin.get i ns[i] (by simp [this])
      exact ⟨_, tx, by simpa using e⟩
    repeat' (first | k_extra "pick_MPick" | k_extra "j")
    exact fin _ _ _ D9 _ _
  · have hlt' : ¬ (i : Int) < (vs.size : Int) := fun h => hlt (Int.ofNat_lt.mp h)
    repeat' (first | k_extra "pick_MPick" | k_extra "j")
    exact fin _ _ _ D9 _ _
end
end Mine

open PySem PySem.W PySem.Calls PyProof.Rows
set_option Elab.async false
set_option linter.all false
set_option maxRecDepth 100000
set_option maxHeartbeats 40000000
namespace Mine
noncomputable def nums : List (Int × Int) := [(0, 1), (1, 1), (-1, 1), (2, 1), (5, 1), (-3, 1), (1, 2), (-2, 3)]
noncomputable def NumsAt (h : Heap) (l : Addr) : Prop := ∃ vs n, h.get? l = some (lsO vs n) ∧ ∀ (j : Nat) (x : Int × Int), nums[j]? = some x → ∃ a t1 t2, vs[j]? = some (.ref a) ∧ h.get? a = some (tupO [.int x.1 t1, .int x.2 t2])
theorem J.powInt {w : World} {c : Cx} {l : Led} {m : Mp} {P : Value → Led → Mp → Prop} {a n : Int} {t u : Tok} (hn : 0 ≤ n) (hn2 : n ≤ 1000000) (ha : a.natAbs < 2 ^ 64) (k : ∀ t, P (.int (a ^ n.toNat) t) l m) : J w c l m (binaryOp .Pow (.int a t) (.int n u)) P := fun h tk O => pow_int_small hn hn2 ha ⟨_, _, _, _, rfl, O, k _⟩
section
variable {w : World} {mean : ExcName → Option Value} {mg mb : Str → Option Value} {dp un : Nat} {fr : Option (List Env)} {gd : Option (List Code)} {s : Shared} {E : Value → Shared → Prop} {Q : Value → Shared → Prop} {hb : Heap}
theorem scale_fn (G : Gd w mean mg mb hb) (kp : ∀ b o, hb.get? b = some o → s.heap.get? b = some o) (R : Room dp un 3)
    (hret : ∀ tk h' tk', Keep [] s.heap h' → Q (.int (6 ^ 48) tk) { s with heap := h', toks := tk' }) :
    wpAny (model PySem.Challenge.rw_sj0101_01.row.prog w) (AR dp un fr gd) (call (.ref 744) []) Q E s := by
  have X₀ := G.X
  revert X₀
  k_fill
  intro X₀
  clear X₀
  refine call_J (n := 2) [] [] R G kp (fun _ h => nomatch h) .nil ?_
  intro c G R he en
  dsimp only [List.reverse, List.reverseAux]
  k_with "scale_MScale" => ((with_reducible refine (?_ : J _ _ _ _ (binaryOp .Pow _ _) _)); refine J.powInt (by decide) (by decide) (by decide) ?_; intro t_l)
  repeat' (first | k_extra "scale_MScale" | k_extra "j")
  intro h tk O K
  exact hret _ _ _ K
theorem numbers_fn (G : Gd w mean mg mb hb) (kp : ∀ b o, hb.get? b = some o → s.heap.get? b = some o) (R : Room dp un 3)
    (hret : ∀ l h' tk', Keep [] s.heap h' → s.heap.get? l = none → NumsAt h' l → Q (.ref l) { s with heap := h', toks := tk' }) :
    wpAny (model PySem.Challenge.rw_sj0101_01.row.prog w) (AR dp un fr gd) (call (.ref 751) []) Q E s := by
  have X₀ := G.X
  revert X₀
  k_fill
  intro X₀
  clear X₀
  refine call_J (n := 2) [] [] R G kp (fun _ h => nomatch h) .nil ?_
  intro c G R he en
  dsimp only [List.reverse, List.reverseAux]
  repeat' (k_extra "j")
  intro h tk O K
  refine hret _ _ _ K (fresh_of en.gs O.N (.head _) List.not_mem_nil) ⟨_, _, O.N.get (.head _), ?_⟩
  intro j x hx
  match j, hx with
  | 0, hx => cases hx; exact ⟨_, _, _, rfl, O.N.get (nth_mem (i := 8) rfl)⟩
  | 1, hx => cases hx; exact ⟨_, _, _, rfl, O.N.get (nth_mem (i := 7) rfl)⟩
  | 2, hx => cases hx; exact ⟨_, _, _, rfl, O.N.get (nth_mem (i := 6) rfl)⟩
  | 3, hx => cases hx; exact ⟨_, _, _, rfl, O.N.get (nth_mem (i := 5) rfl)⟩
  | 4, hx => cases hx; exact ⟨_, _, _, rfl, O.N.get (nth_mem (i := 4) rfl)⟩
  | 5, hx => cases hx; exact ⟨_, _, _, rfl, O.N.get (nth_mem (i := 3) rfl)⟩
  | 6, hx => cases hx; exact ⟨_, _, _, rfl, O.N.get (nth_mem (i := 2) rfl)⟩
  | 7, hx => cases hx; exact ⟨_, _, _, rfl, O.N.get (nth_mem (i := 1) rfl)⟩
  | n + 8, hx => exact absurd hx (by simp [nums])
theorem J.scale {c : Cx} {l : Led} {m : Mp} {P : Value → Led → Mp → Prop} {N : Nat} (G : Gc w c) (R : Rm c N) (k : ∀ t, P (.int (6 ^ 48) t) l m) (hN : autoParam (3 ≤ N) Mine.aT2._auto_1) : J w c l m (PySem.call (.ref 744) []) P :=
  J.con 3 G R hN fun g r _ _ _ O ret => scale_fn g O.F.keep r fun t _ _ K => ret _ _ _ K fun _ => k t
end
end Mine

set_option Elab.async false
set_option maxRecDepth 100000
set_option maxHeartbeats 4000000
open PySem PySem.W PySem.Calls PyProof.Rows PyProof.Rows.LCg
namespace Mine
noncomputable def Off4 (I C K D : Addr) : List (Addr × Obj) → Prop
  | [] => True
  | p :: r => ((@Ne Nat p.1 I) ∧ (@Ne Nat p.1 C) ∧ (@Ne Nat p.1 K) ∧ (@Ne Nat p.1 D)) ∧ Off4 I C K D r
theorem Off4.mem {I C K D : Addr} : ∀ {l : List (Addr × Obj)}, Off4 I C K D l → ∀ p ∈ l, p.1 ≠ I ∧ p.1 ≠ C ∧ p.1 ≠ K ∧ p.1 ≠ D
  | [], _, _, h => nomatch h
  | _ :: _, x, p, h => by
    rcases List.mem_cons.mp h with rfl | h
    · exact x.1
    · exact Off4.mem x.2 p h
theorem Off4.of {I C K D : Addr} : ∀ {l : List (Addr × Obj)}, (∀ p ∈ l, p.1 ≠ I ∧ p.1 ≠ C ∧ p.1 ≠ K ∧ p.1 ≠ D) → Off4 I C K D l
  | [], _ => trivial
  | _ :: _, h => ⟨h _ List.mem_cons_self, Off4.of fun p hp => h p (List.mem_cons_of_mem _ hp)⟩
theorem Off4.one {I C K D : Addr} : ∀ {l : List (Addr × Obj)}, Off4 I C K D l → Off1 D l
  | [], _ => trivial
  | _ :: _, x => ⟨x.1.2.2.2, Off4.one x.2⟩
noncomputable def CEnd4 (h₀ : Heap) (L : Addr) (m : Str → Option Value) (s₁ : Shared) (I : Addr) (oI : Obj) (C : Addr) (oC : Obj) (K : Addr) (oK : Obj) (D : Addr) (oD : Obj) (rest : Value → List (Addr × Obj) → Prop) (y : Value) (s₂ : Shared) : Prop :=
  ∃ h' tk news', s₂ = { s₁ with heap := h', toks := tk } ∧ Fr h₀ L h' m ∧ News h₀ L h' ((I, oI) :: (C, oC) :: (K, oK) :: (D, oD) :: news') ∧ Off4 I C K D news' ∧ rest y news'
theorem CEnd4.intro {h₀ : Heap} {L I C K D : Addr} {m : Str → Option Value} {s₁ : Shared} {oI oC oK oD : Obj} {rest : Value → List (Addr × Obj) → Prop} {y : Value} {h' : Heap} {tk : Nat} {all : List (Addr × Obj)}
    (F : Fr h₀ L h' m) (N : News h₀ L h' all) (news' : List (Addr × Obj)) (sub : ∀ p ∈ (I, oI) :: (C, oC) :: (K, oK) :: (D, oD) :: news', p ∈ all) (off : Off4 I C K D news') (r : rest y news') :
    CEnd4 h₀ L m s₁ I oI C oC K oK D oD rest y { s₁ with heap := h', toks := tk } := ⟨h', tk, news', rfl, F, fun p hp => N p (sub p hp), off, r⟩
noncomputable def CRest4 (prog : Program) (w : World) (A : Around) (h₀ : Heap) (L : Addr) (m : Str → Option Value) (env : Env) (elt : PySem.Expr) (x : Str) (scope : Scope) (cl : List (Str × Addr)) (s : Shared) (P : Nat → Value → Prop)
    (Fin : List Value → List (Addr × Obj) → Prop) : Nat → Nat → List Value → List (Addr × Obj) → Prop
  | 0, _, ys, news => Fin ys news
  | k + 1, i, ys, news => ∀ v I oI C oC K oK D h tk (E' : Value → Shared → Prop), P i v → oK.data = .cell (some v) → Fr h₀ L h m → News h₀ L h ((I, oI) :: (C, oC) :: (K, oK) :: (D, lst ys) :: news) → Off4 I C K D news →
      ((@Ne Nat I C) ∧ (@Ne Nat I K) ∧ (@Ne Nat I D) ∧ (@Ne Nat C K) ∧ (@Ne Nat C D) ∧ (@Ne Nat K D)) →
      wpAny (model prog w) A (eval elt (compEnvC scope ((x, K) :: cl) C env)) (CEnd4 h₀ L m { s with heap := h, toks := tk } I oI C oC K oK D (lst ys) (fun y news' => CRest4 prog w A h₀ L m env elt x scope cl s P Fin k (i + 1) (ys ++ [y]) news')) E' { s with heap := h, toks := tk }
section
variable {prog : Program} {w : World} {A : Around} {E : Value → Shared → Prop} {s : Shared} {h₀ : Heap} {L : Addr} {m : Str → Option Value} {env : Env}
noncomputable def FNow (_f : Nat → Int) : Prop := True
noncomputable def IntsF (f : Nat → Int) (n : Nat) (ys : List Value) : Prop := ys.length = n ∧ ∀ i, i < n → ∃ t, ys[i]? = some (.int (f i) t)
theorem IntsF.nil {f : Nat → Int} : IntsF f 0 [] := ⟨rfl, fun _ h => absurd h (Nat.not_lt_zero _)⟩
theorem IntsF.snoc {f : Nat → Int} {n : Nat} {ys : List Value} (h : IntsF f n ys) (t : Tok) : IntsF f (n + 1) (ys ++ [.int (f n) t]) := by
  refine ⟨by rw [List.length_append, h.1]; rfl, fun i hi => ?_⟩
  by_cases e : i < n
  · obtain ⟨t', q⟩ := h.2 i e
    exact ⟨t', by rw [List.getElem?_append_left (by rw [h.1]; exact e)]; exact q⟩
  · obtain rfl : i = n := by lia
    exact ⟨t, by rw [List.getElem?_append_right (by rw [h.1]; exact Nat.le_refl _), h.1, Nat.sub_self]; rfl⟩
theorem CEnd4.mono {I : Addr} {oI : Obj} {C : Addr} {oC : Obj} {K : Addr} {oK : Obj} {D : Addr} {oD : Obj} {r r' : Value → List (Addr × Obj) → Prop} {y : Value} {s₁ s₂ : Shared} (h : CEnd4 h₀ L m s₁ I oI C oC K oK D oD r y s₂) (k : ∀ y nx, r y nx → r' y nx) : CEnd4 h₀ L m s₁ I oI C oC K oK D oD r' y s₂ :=
  let ⟨h', tk, nx, a, b, c, d, e⟩ := h; ⟨h', tk, nx, a, b, c, d, k _ _ e⟩
theorem CRest4.all {elt : PySem.Expr} {x : Str} {scope : Scope} {cl : List (Str × Addr)} {P : Nat → Value → Prop} {Fin : List Value → List (Addr × Obj) → Prop} {n : Nat} {news : List (Addr × Obj)} {f : Nat → Int} (_fn : FNow f)
    (turn : ∀ i v I oI C oC K oK D ys h tk (E' : Value → Shared → Prop), i < n → P i v → oK.data = .cell (some v) → Fr h₀ L h m → News h₀ L h ((I, oI) :: (C, oC) :: (K, oK) :: (D, lst ys) :: news) → Off4 I C K D news →
      ((@Ne Nat I C) ∧ (@Ne Nat I K) ∧ (@Ne Nat I D) ∧ (@Ne Nat C K) ∧ (@Ne Nat C D) ∧ (@Ne Nat K D)) →
      wpAny (model prog w) A (eval elt (compEnvC scope ((x, K) :: cl) C env)) (CEnd4 h₀ L m { s with heap := h, toks := tk } I oI C oC K oK D (lst ys) (fun y news' => (∃ t, y = .int (f i) t) ∧ news' = news)) E' { s with heap := h, toks := tk })
    (fin : ∀ ys, IntsF f n ys → Fin ys news) : CRest4 prog w A h₀ L m env elt x scope cl s P Fin n 0 [] news := by
  have go : ∀ k i ys, i + k = n → IntsF f i ys → CRest4 prog w A h₀ L m env elt x scope cl s P Fin k i ys news := by
    intro k
    induction k with
    | zero => intro i ys e hy; exact fin ys (by rw [← e]; exact hy)
    | succ k ih =>
      intro i ys e hy v I oI C oC K oK D h tk E' hP hK F N off ne
      refine wpAny_mono (turn i v I oI C oC K oK D ys h tk E' (by lia) hP hK F N off ne) (fun y s₂ hc => hc.mono ?_) fun _ _ e => e
      rintro _ _ ⟨⟨t, rfl⟩, rfl⟩
      exact ih (i + 1) _ (by lia) (hy.snoc t)
  exact go n 0 [] (by lia) .nil
theorem wpAny_compEnv_cell {M : Model} {scope : Scope} {x : Str} {cl : List (Str × Addr)} {Q : Env → Shared → Prop} (hcl : ∀ n, cellsFrom n scope.names cl = (x, n) :: cl) (hpush : ∀ h, pushCells h scope.names = h.push { cls := .type "cell", data := .cell none })
    (h : Q { scope, locals := s.heap.objs.size, globals := env.globals, cells := (x, s.heap.objs.size + 1) :: cl, qual := env.qual, func := none, code := env.code, frame := env.frame, builtins := env.builtins }
      { s with heap := (s.heap.push { cls := .type "dict", data := .dict #[] }).push { cls := .type "cell", data := .cell none } }) :
    wpAny M A (newFunctionEnv scope env.globals cl [] env.qual none .none (some env)) Q E s := by
  simp only [newFunctionEnv, Option.isSome_some, if_true]
  refine wpAny_bind (wpAny_alloc ?_)
  refine wpAny_bind (wpAny_layCells _ (fun name kind cells => by cases hkc : kind == NameKind.cell <;> simp [hkc]) _ _ _ _ ?_)
  rw [show ({ s with heap := s.heap.push { cls := .type "dict", data := .dict #[] } } : Shared).heap.objs.size = s.heap.objs.size + 1 from Heap.size_push ..]
  rw [hcl, hpush]
  rw [List.forIn_nil]
  exact wpAny_bind (wpAny_pure (wpAny_pure h))
inductive B4 (prog : Program) (w : World) (A : Around) (h₀ : Heap) (L : Addr) (m : Str → Option Value) (env : Env) (elt : PySem.Expr) (x : Str) (scope : Scope) (cl : List (Str × Addr)) (s₂ : Shared) (I C K D : Addr) (n : Nat) (P : Nat → Value → Prop) (St : Nat → Heap → Prop) (Fin : List Value → List (Addr × Obj) → Prop) (k : Nat) (s' : Shared) : Prop
  | mk (h' : Heap) (tk i : Nat) (ys : List Value) (m' : Str → Option Value) (v₀ : Option Value) (news' : List (Addr × Obj)) (e : s' = { s₂ with heap := h', toks := tk }) (hi : i ≤ n) (hk : k = n + 1 - i) (hl : ys.length = i) (st : St i h') (F : Fr h₀ L h' m) (hn : h'.Ns C m') (hc : h'.IsCell K v₀)
      (N : News h₀ L h' ((D, lst ys) :: news')) (off : Off4 I C K D news') (R : CRest4 prog w A h₀ L m env elt x scope cl s₂ P Fin (n - i) i ys news') : B4 prog w A h₀ L m env elt x scope cl s₂ I C K D n P St Fin k s'
theorem block_4 {elt iter : PySem.Expr} {x : Str} {px : Pos} {scope : Scope} {cl : List (Str × Addr)} {pos : Pos} {s₂ : Shared} {I : Addr} {fp : List Addr} {n : Nat} {P : Nat → Value → Prop} {St : Nat → Heap → Prop} {news : List (Addr × Obj)}
    {Fin : List Value → List (Addr × Obj) → Prop} {RR : Value → Addr → Result → Shared → Prop}
    (W : Walks prog w A I fp [I] n P St) (hsz : n ≤ sizeLine) (hIo : ∀ i h, St i h → ∃ o, h.get? I = some o)
    (hSt : ∀ i h h' o nw, St i h → h.get? I = some o → h'.get? I = some o → (∀ b o, h₀.get? b = some o → h'.get? b = some o) → News h₀ L h' nw → St i h')
    (hcl : ∀ n, cellsFrom n scope.names cl = (x, n) :: cl) (hpush : ∀ h, pushCells h scope.names = h.push { cls := .type "cell", data := .cell none }) (hkind : scope.kind = .function) (hx : (relabel scope env).names.lookup x = some .cell) (hst : St 0 s₂.heap) (hfp : ∀ b ∈ fp, b < s₂.heap.objs.size)
    (F : Fr h₀ L s₂.heap m) (N : News h₀ L s₂.heap news) (hIL : L ≠ I) (hI₀ : h₀.get? I = none) (off : ∀ p ∈ news, p.1 ≠ I)
    (R : CRest4 prog w A h₀ L m env elt x scope cl s₂ P Fin n 0 [] news)
    (hRR : ∀ D C h tk m' ys news', Fr h₀ L h m → News h₀ L h ((D, lst ys) :: news') → Off1 D news' → h.Ns C m' → h₀.get? C = none → h₀.get? D = none → C ≠ L → D ≠ L → C ≠ D → (∀ p ∈ news', p.1 ≠ C) → Fin ys news' → RR (.ref D) C (.ok .next) { s₂ with heap := h, toks := tk }) :
    wpAny (model prog w) A (newList []) (fun acc s₃ => wpAny (model prog w) A (newFunctionEnv scope env.globals cl [] env.qual none .none (some env)) (fun cenv s₄ =>
      codeAny (model prog w) A (.compStart (.ListComp elt [⟨.Name x px, iter, [], 0⟩] scope pos) 0 (.ref I) acc { cenv with scope := relabel scope env }) (RR acc cenv.locals) s₄) E s₃) E s₂ := by
  refine wpAny_newObj_type (wpAny_compEnv_cell hcl hpush ?_)
  dsimp only
  generalize hH2 : s₂.heap.push { cls := .type "list", dict := none, data := .seq ([] : List Value).toArray } = H2
  have hC : H2.objs.size = s₂.heap.objs.size + 1 := by rw [← hH2, Heap.size_push]
  generalize hH3 : H2.push { cls := .type "dict", data := .dict #[] } = H3
  have hK : H3.objs.size = s₂.heap.objs.size + 2 := by rw [← hH3, Heap.size_push, hC]
  generalize hH4 : H3.push { cls := .type "cell", data := .cell none } = h₁
  have up12 : ∀ b o, s₂.heap.get? b = some o → H2.get? b = some o := fun b o e => hH2 ▸ Heap.get?_push_of_some _ e
  have up23 : ∀ b o, H2.get? b = some o → H3.get? b = some o := fun b o e => hH3 ▸ Heap.get?_push_of_some _ e
  have up34 : ∀ b o, H3.get? b = some o → h₁.get? b = some o := fun b o e => hH4 ▸ Heap.get?_push_of_some _ e
  have old : ∀ b o, s₂.heap.get? b = some o → h₁.get? b = some o := fun b o e => up34 b o (up23 b o (up12 b o e))
  have hDC : s₂.heap.objs.size ≠ H2.objs.size := by rw [hC]; exact Nat.ne_of_lt (Nat.lt_succ_self _)
  have eK : H2.objs.size + 1 = H3.objs.size := by rw [hC, hK]
  rw [eK]
  have hDK : s₂.heap.objs.size ≠ H3.objs.size := by rw [hK]; lia
  have hCK : H2.objs.size ≠ H3.objs.size := by rw [hC, hK]; lia
  have below : ∀ b, b < s₂.heap.objs.size → b ≠ H2.objs.size ∧ b ≠ H3.objs.size ∧ b ≠ s₂.heap.objs.size := fun b hb => ⟨by rw [hC]; lia, by rw [hK]; lia, by lia⟩
  have hDf : s₂.heap.objs.size ∉ fp := fun hm => Nat.lt_irrefl _ (hfp _ hm)
  have hCf : H2.objs.size ∉ fp := fun hm => by have := hfp _ hm; rw [hC] at this; exact Nat.lt_irrefl _ (Nat.lt_of_succ_lt this)
  have hKf : H3.objs.size ∉ fp := fun hm => by have := hfp _ hm; rw [hK] at this; exact Nat.lt_irrefl _ (Nat.lt_of_succ_lt (Nat.lt_of_succ_lt this))
  have hIf : I ∈ fp := W.sub I (List.mem_singleton.mpr rfl)
  have hIlt : I < s₂.heap.objs.size := hfp I hIf
  have hacc : h₁.get? s₂.heap.objs.size = some (lst []) := up34 _ _ (up23 _ _ (hH2 ▸ Heap.get?_push_size _ rfl))
  have hns₁ : h₁.Ns H2.objs.size (fun _ => none) := (hH3 ▸ Heap.Ns.new H2 (.type "dict") : H3.Ns H2.objs.size (fun _ => none)).keeps up34
  have hcell₁ : h₁.IsCell H3.objs.size none := ⟨_, hH4 ▸ Heap.get?_push_size _ rfl, rfl⟩
  have hst₁ : St 0 h₁ := W.frame _ _ _ hst fun b _ o e => old b o e
  have fresh : ∀ a, s₂.heap.objs.size ≤ a → s₂.heap.get? a = none := fun a ha => by
    cases e : s₂.heap.get? a with
    | none => rfl
    | some o' => exact absurd (Heap.lt_size e) (Nat.not_lt.mpr ha)
  have fresh₀ : ∀ a, s₂.heap.objs.size ≤ a → h₀.get? a = none := fun a ha => by
    cases e : h₀.get? a with
    | none => rfl
    | some o' => have := F.keep a o' e; rw [fresh a ha] at this; cases this
  have hD₀ : h₀.get? s₂.heap.objs.size = none := fresh₀ _ (Nat.le_refl _)
  have hC₀ : h₀.get? H2.objs.size = none := fresh₀ _ (by rw [hC]; lia)
  have hK₀ : h₀.get? H3.objs.size = none := fresh₀ _ (by rw [hK]; lia)
  have hLlt : L < s₂.heap.objs.size := F.ns.lt
  have hDL : s₂.heap.objs.size ≠ L := Ne.symm (below L hLlt).2.2
  have hCL : H2.objs.size ≠ L := Ne.symm (below L hLlt).1
  have hKL : H3.objs.size ≠ L := Ne.symm (below L hLlt).2.1
  have hCI : I ≠ H2.objs.size := (below I hIlt).1
  have hKI : I ≠ H3.objs.size := (below I hIlt).2.1
  have hDI : I ≠ s₂.heap.objs.size := (below I hIlt).2.2
  have off₀ : Off4 I H2.objs.size H3.objs.size s₂.heap.objs.size news := Off4.of fun p hp => ⟨off p hp, (below _ (Heap.lt_size (N p hp).1)).1, (below _ (Heap.lt_size (N p hp).1)).2.1, (below _ (Heap.lt_size (N p hp).1)).2.2⟩
  have loop : ∀ s₃ : Shared, s₃ = { s₂ with heap := h₁ } →
      codeAny (model prog w) A (.compLoop (.ListComp elt [⟨.Name x px, iter, [], 0⟩] scope pos) 0 (.ref I) (.ref s₂.heap.objs.size) (compEnvC scope ((x, H3.objs.size) :: cl) H2.objs.size env))
        (RR (.ref s₂.heap.objs.size) H2.objs.size) s₃ := by
    rintro s₃ rfl
    refine codeAny_compLoop_tests
      (B4 prog w A h₀ L m env elt x scope cl s₂ I H2.objs.size H3.objs.size s₂.heap.objs.size n P St Fin) ?_ (n + 1)
      ⟨h₁, _, 0, [], _, none, news, rfl, Nat.zero_le _, rfl, rfl, hst₁, F.keeps old, hns₁, hcell₁, fun p hp => ?_, off₀, R⟩
    · rintro k s' ⟨h', tk, i, ys, m', v₀, news', rfl, hi, rfl, hyl, hst', F', hn', hc', N', off', R'⟩
      by_cases hlt : i < n
      · obtain ⟨j, hj⟩ : ∃ j, n - i = j + 1 := ⟨n - i - 1, by lia⟩
        rw [hj] at R'
        refine W.item i _ _ _ hlt hst' fun v h₂ tk₂ hPv hst₂ hk₂ => ?_
        obtain ⟨oc', hc1, hc2⟩ := hc'
        have hcc : h₂.IsCell H3.objs.size v₀ := ⟨oc', hk₂ _ _ (by simpa using Ne.symm hKI) hc1, hc2⟩
        refine wpAny_assign_Name (wpAny_storeName_cell (c := H3.objs.size) hkind hx (by show List.lookup x ((x, H3.objs.size) :: cl) = _; rw [List.lookup_cons, beq_self_eq_true]) hcc fun h₃ hn₃ hs₃ => ?_)
        refine wpAny_tests_nil ?_
        simp only [if_true]
        have hst₃ : St (i + 1) h₃ := W.frame _ _ _ hst₂ fun b hb o e => hs₃.extBut b o (fun q => hKf (by have q' : b = H3.objs.size := q; rw [← q']; exact hb)) e
        obtain ⟨oI, heI⟩ := hIo _ _ hst₃
        have hn₂ : h₂.Ns H2.objs.size m' := hn'.at' fun o e => hk₂ _ o (by simpa using Ne.symm hCI) e
        have hnn₃ : h₃.Ns H2.objs.size m' := hn₂.sameBut hs₃ hCK
        obtain ⟨oC, heC, hoC⟩ := ns_obj hnn₃
        obtain ⟨oK, heK, hoK⟩ := hn₃
        have F₃ : Fr h₀ L h₃ m := (fr_but F' hk₂ hIL hI₀).change hs₃ hKL hK₀
        have off3 := off'.mem
        have N₂ : News h₀ L h₂ ((s₂.heap.objs.size, lst ys) :: news') := news_but N' hk₂ fun p hp => by
          rcases List.mem_cons.mp hp with rfl | hp
          · exact Ne.symm hDI
          · exact (off3 p hp).1
        have N₃ : News h₀ L h₃ ((I, oI) :: (H2.objs.size, oC) :: (H3.objs.size, oK) :: (s₂.heap.objs.size, lst ys) :: news') := fun p hp => by
          rcases List.mem_cons.mp hp with rfl | hp
          · exact ⟨heI, Ne.symm hIL, hI₀⟩
          · rcases List.mem_cons.mp hp with rfl | hp
            · exact ⟨heC, hCL, hC₀⟩
            · rcases List.mem_cons.mp hp with rfl | hp
              · exact ⟨heK, hKL, hK₀⟩
              · have z := N₂ p hp
                refine ⟨hs₃.extBut _ _ ?_ z.1, z.2⟩
                rcases List.mem_cons.mp hp with rfl | hp
                · exact hDK
                · exact (off3 p hp).2.2.1
        refine wpAny_mono (R' v I oI H2.objs.size oC H3.objs.size oK s₂.heap.objs.size h₃ _ _ hPv hoK F₃ N₃ off' ⟨hCI, hKI, hDI, hCK, Ne.symm hDC, Ne.symm hDK⟩) (fun y s₄ h₄ => ?_) fun _ _ e => e
        obtain ⟨h₄, tk₄, news₄, rfl, F₄, N₄, off₄, R₄⟩ := h₄
        have zI := (N₄ (I, oI) List.mem_cons_self).1
        have zC := (N₄ (H2.objs.size, oC) (List.mem_cons_of_mem _ List.mem_cons_self)).1
        have zK := (N₄ (H3.objs.size, oK) (List.mem_cons_of_mem _ (List.mem_cons_of_mem _ List.mem_cons_self))).1
        have zD := (N₄ (s₂.heap.objs.size, lst ys) (List.mem_cons_of_mem _ (List.mem_cons_of_mem _ (List.mem_cons_of_mem _ List.mem_cons_self)))).1
        have N₄' : News h₀ L h₄ news₄ := fun p hp => N₄ p (List.mem_cons_of_mem _ (List.mem_cons_of_mem _ (List.mem_cons_of_mem _ (List.mem_cons_of_mem _ hp))))
        have hst₄ : St (i + 1) h₄ := hSt _ _ _ _ _ hst₃ heI zI F₄.keep N₄'
        refine append_at (hsz := by show ys.toArray.size ≤ sizeLine; rw [List.size_toArray, hyl]; exact Nat.le_trans hi hsz) zD fun h₅ hs₅ hD₅ => ?_
        have off4 := off₄.mem
        refine ⟨n + 1 - (i + 1), by lia, h₅, tk₄, i + 1, ys ++ [y], _, some v, news₄, rfl, hlt, rfl, by rw [List.length_append, List.length_singleton, hyl], W.frame _ _ _ hst₄ fun b hb o e => hs₅.extBut b o (fun q => hDf (q ▸ hb)) e, F₄.change hs₅ hDL hD₀,
          (hoC.ns zC).sameBut hs₅ (Ne.symm hDC), ⟨oK, hs₅.extBut _ _ (Ne.symm hDK) zK, hoK⟩, fun p hp => ?_, off₄, ?_⟩
        · rcases List.mem_cons.mp hp with rfl | hp
          · exact ⟨hD₅.trans (congrArg some (lst_snoc ys y)), hDL, hD₀⟩
          · exact ⟨hs₅.extBut _ _ (off4 p hp).2.2.2 (N₄' p hp).1, (N₄' p hp).2⟩
        · rw [show n - (i + 1) = j by lia]
          exact R₄
      · obtain rfl : i = n := Nat.le_antisymm hi (Nat.not_lt.mp hlt)
        rw [Nat.sub_self] at R'
        refine W.done _ _ _ hst' fun h₂ tk₂ hk₂ => ?_
        have off3 := off'.mem
        exact hRR _ _ h₂ tk₂ _ ys news' (fr_but F' hk₂ hIL hI₀) (news_but N' hk₂ fun p hp => by
          rcases List.mem_cons.mp hp with rfl | hp
          · exact Ne.symm hDI
          · exact (off3 p hp).1) off'.one (hn'.at' fun o e => hk₂ _ o (by simpa using Ne.symm hCI) e) hC₀ hD₀ hCL hDL (Ne.symm hDC) (fun p hp => (off3 p hp).2.1) R'
    · rcases List.mem_cons.mp hp with rfl | hp
      · exact ⟨hacc, hDL, hD₀⟩
      · exact ⟨old _ _ (N p hp).1, (N p hp).2⟩
  exact codeAny_compStart_list (loop _ rfl) (W.self 0 _ _ _ hst₁ (loop _ rfl))
noncomputable def CSrc4 (prog : Program) (w : World) (A : Around) (h₀ : Heap) (L : Addr) (m : Str → Option Value) (env : Env) (elt : PySem.Expr) (x : Str) (scope : Scope) (cl : List (Str × Addr)) (Fin : Shared → List Value → List (Addr × Obj) → Prop) (xv : Value) (s₁ : Shared) : Prop :=
  ∃ r a b t u v n news, xv = .ref r ∧ A.handled = none ∧ Fr h₀ L s₁.heap m ∧ News h₀ L s₁.heap news ∧ IsRange s₁.heap r a b 1 t u v ∧ Builtin.Range.small a b 1 = true ∧ Builtin.Range.rangeSize a b 1 = ((n : Nat) : Int) ∧ n ≤ sizeLine ∧
    ∀ s₂ : Shared, (∃ h, s₂ = { s₁ with heap := h }) → CRest4 prog w A h₀ L m env elt x scope cl s₂ (fun i v => ∃ t, v = .int (a + (i : Int)) t) (Fin s₂) n 0 [] news
theorem CSrc4.range {elt : PySem.Expr} {x : Str} {scope : Scope} {cl : List (Str × Addr)} {Fin : Shared → List Value → List (Addr × Obj) → Prop} {r : Addr} {a b : Int} {t u v : Tok} {n : Nat} {news : List (Addr × Obj)} {s₁ : Shared}
    (hh : A.handled = none) (F : Fr h₀ L s₁.heap m) (N : News h₀ L s₁.heap news) (hr : IsRange s₁.heap r a b 1 t u v) (hsm : Builtin.Range.small a b 1 = true) (hn : Builtin.Range.rangeSize a b 1 = ((n : Nat) : Int)) (hsz : n ≤ sizeLine)
    (h : ∀ g, CRest4 prog w A h₀ L m env elt x scope cl { s₁ with heap := g } (fun i v => ∃ t, v = .int (a + (i : Int)) t) (Fin { s₁ with heap := g }) n 0 [] news) :
    CSrc4 prog w A h₀ L m env elt x scope cl Fin (.ref r) s₁ := ⟨r, a, b, t, u, v, n, news, rfl, hh, F, N, hr, hsm, hn, hsz, fun _ ⟨g, e⟩ => e ▸ h g⟩
theorem ListComp_4 {elt iter : PySem.Expr} {x : Str} {px : Pos} {scope : Scope} {cl : List (Str × Addr)} {pos : Pos} {Q : Value → Shared → Prop} (_F₀ : Fr h₀ L s.heap m)
    (hclos : closureFor scope env = pure cl) (hcl : ∀ n, cellsFrom n scope.names cl = (x, n) :: cl) (hpush : ∀ h, pushCells h scope.names = h.push { cls := .type "cell", data := .cell none }) (hkind : scope.kind = .function)
    (hnames : ∀ y ∈ scope.names, y.2 = .local → scope.names.lookup y.1 = some .local) (hx : (relabel scope env).names.lookup x = some .cell)
    (h : wpAny (model prog w) A (eval iter env) (CSrc4 prog w A h₀ L m env elt x scope cl (fun s₂ => FinE h₀ L m s₂ Q)) E s)
    (hs : ∀ x, foldedSetIterable iter env x = pure x := by intro _; rfl) :
    wpAny (model prog w) A (eval (.ListComp elt [⟨.Name x px, iter, [], 0⟩] scope pos) env) Q E s := by
  rw [eval_ListComp]
  refine wpAny_comprehension_free (use := none) rfl hs hclos hkind hnames (wpAny_mono h (fun xv s₁ h₁ => ?_) fun _ _ e => e)
  rcases h₁ with ⟨r, a, b, t, u, v, n, news, rfl, hh, F, N, hr, hsm, hn, hsz, R⟩
  refine wpAny_pyIter_range hr hsm ?_
  refine block_4 (range_walks hh a n) hsz (fun i h st => ⟨_, st⟩) (fun i h h' o nw st e e' k N => range_st i h h' o nw st e e' k N trivial) hcl hpush hkind hx (by show IsRangeIter _ _ _ _ _; rw [hn]; simpa using Heap.get?_push_size _ rfl) (fun b hb => ?_)
    (F.keeps fun _ _ e => Heap.get?_push_of_some _ e) (N.grown fun _ _ e => Heap.get?_push_of_some _ e) (Nat.ne_of_lt F.ns.lt) (next_is_new F) (fun p hp => Nat.ne_of_lt (Heap.lt_size (N p hp).1)) (R _ ⟨_, rfl⟩) ?_
  · rw [List.mem_singleton.mp hb]
    show s₁.heap.objs.size < (s₁.heap.push _).objs.size
    rw [Heap.size_push]; exact Nat.lt_succ_self _
  · intro D C h tk m' ys news' F' N' o1 hn hC₀ hD₀ hCL hDL hCD offC fin
    refine ⟨m', hn, fun h'' hs'' => fin D h'' tk (F'.change hs'' hCL hC₀) (fun p hp => ?_) o1⟩
    refine ⟨hs''.extBut _ _ ?_ (N' p hp).1, (N' p hp).2⟩
    rcases List.mem_cons.mp hp with rfl | hp
    · exact Ne.symm hCD
    · exact offC p hp
end
end Mine

open PySem PySem.W PySem.Calls PyProof.Rows
set_option Elab.async false
set_option linter.all false
set_option maxRecDepth 100000
set_option maxHeartbeats 40000000
namespace Mine
noncomputable def Six (vs : Array Value) (c : Nat → Int) : Prop := vs.size = 6 ∧ ∀ i, i < 6 → ∃ t, vs[i]? = some (.int (c i) t)
theorem Six.of {c : Nat → Int} {ys : List Value} (h : IntsF c 6 ys) : Six ys.toArray c := ⟨by simpa using h.1, fun i hi => by simpa using h.2 i hi⟩
set_option genInjectivity false in
set_option genSizeOf false in
structure Vd where
  W : Wd
  feA : Nat
  ceA : Nat
  ptA : Nat
  woA : Nat
  wtA : Nat
  blA : Nat
  base : Int
  btk : Tok
  p0 : Nat
  p1 : Nat
  p2 : Nat
  p3 : Nat
  p4 : Nat
  p5 : Nat
  pn : Nat
  exA : Nat
structure Vd.Ok (V : Vd) : Prop where
  wok : V.W.Ok
  a1 : V.feA < V.ceA
  a2 : V.ceA < V.W.dA
  a3 : V.W.nA < V.ptA
  a4 : V.ptA < V.woA
  a5 : V.woA < V.wtA
  a6 : V.wtA < V.blA
  base : V.base = 1 ∨ V.base = 2
noncomputable def Vd.all (V : Vd) : List Addr := [V.W.dA, V.W.bA, V.W.oA, V.W.aA, V.W.soA, V.W.daA, V.W.nA, V.feA, V.ceA, V.ptA, V.woA, V.wtA, V.blA]
noncomputable def Vd.off (V : Vd) : List Addr := V.exA :: V.all
noncomputable def Vd.mut (V : Vd) : List Addr := [V.W.oA, V.W.aA, V.W.soA, V.W.daA, V.W.nA, V.feA, V.wtA, V.blA]
noncomputable abbrev Vd.worldEs (V : Vd) : List (Str × Value) := [((Str.ofString "bank"), .ref V.W.bA), ((Str.ofString "base"), .int V.base V.btk), ((Str.ofString "points"), .ref V.ptA), ((Str.ofString "worth"), .ref V.wtA), ((Str.ofString "below"), .ref V.blA)]
noncomputable abbrev Vd.pts (V : Vd) : Obj := lsO #[.ref V.p0, .ref V.p1, .ref V.p2, .ref V.p3, .ref V.p4, .ref V.p5] V.pn
noncomputable def WtAt (V : Vd) (h : Heap) (kvs : List (Int × Value)) (wt : Int → Option (Nat → Int)) : Prop :=
  ∀ k, match wt k with
    | none => valueAt kvs k = none
    | some c => ∃ a vs n, valueAt kvs k = some (.ref a) ∧ a ∉ V.off ∧ h.get? a = some (lsO vs n) ∧ Six vs c
noncomputable def BlAt (V : Vd) (h : Heap) (kvs : List (Int × Value)) (bl : Int → Option (List Int)) : Prop :=
  ∀ k, match bl k with
    | none => valueAt kvs k = none
    | some l => ∃ a vs n, valueAt kvs k = some (.ref a) ∧ a ∉ V.off ∧ h.get? a = some (lsO vs n) ∧ IntsAre vs.toList l
noncomputable def ExAt (V : Vd) (h : Heap) : Prop := V.exA ∉ V.all ∧ ∃ vs n, h.get? V.exA = some (lsO vs n)
structure WorldAt (w : World) (V : Vd) (z : Nat) (wt : Int → Option (Nat → Int)) (bl : Int → Option (List Int)) (o1 o2 o3 : Obj) (k2 k3 : List (Int × Value)) (h : Heap) : Prop where
  pts : h.get? V.ptA = some V.pts
  wo : h.get? V.woA = some o1
  wtg : h.get? V.wtA = some o2
  blg : h.get? V.blA = some o3
  d1 : o1.IsDictOf (PySem.strKind PR w) V.worldEs
  d2 : o2.IsDictOf (PySem.intKind PR w) k2
  d3 : o3.IsDictOf (PySem.intKind PR w) k3
  wtAt : WtAt V h k2 wt
  blAt : BlAt V h k3 bl
  l2 : k2.length ≤ z
  l3 : k3.length ≤ z
  ex : ExAt V h
structure Wrl (w : World) (V : Vd) (i z : Nat) (ts : List Tm) (wt : Int → Option (Nat → Int)) (bl : Int → Option (List Int)) (h : Heap) : Prop where
  bank : Bank w V.W ts h
  feed : Feed w V.feA V.ceA i h
  world : ∃ o1 o2 o3 k2 k3, WorldAt w V z wt bl o1 o2 o3 k2 k3 h
theorem valueAt_stored {K : Type} [DecidableEq K] (kvs : List (K × Value)) (k : K) (v : Value) (k' : K) : valueAt (stored kvs k v) k' = if k' = k then some v else valueAt kvs k' := by
  have h1 : ∀ l : List (K × Value), valueAt (l.map fun kv => if kv.1 = k then (kv.1, v) else kv) k' = if k' = k ∧ (l.any fun kv => kv.1 = k) = true then some v else valueAt l k' := by
    intro l
    induction l with
    | nil => simp [valueAt]
    | cons kv l ih =>
      simp only [valueAt, List.map_cons, List.find?_cons, List.any_cons, Bool.or_eq_true, decide_eq_true_eq] at ih ⊢
      by_cases e : kv.1 = k
      · subst e
        by_cases e2 : k' = kv.1
        · subst e2; simp
        · simp only [if_true, decide_eq_false (fun q : kv.1 = k' => e2 q.symm)]
          rw [ih]; simp [e2]
      · by_cases e2 : kv.1 = k'
        · subst e2
          simp [e]
        · simp only [if_false, decide_eq_false e2, e, false_or]
          exact ih
  unfold stored
  split
  · rename_i h
    rw [h1, h]; simp
  · rename_i h
    have hn : ∀ kv ∈ kvs, kv.1 ≠ k := by
      intro kv hk e
      exact h (List.any_eq_true.mpr ⟨kv, hk, by simpa using e⟩)
    unfold valueAt
    rw [List.find?_append]
    by_cases e : k' = k
    · subst e
      rw [if_pos rfl]
      have : kvs.find? (fun kv => decide (kv.1 = k')) = none := List.find?_eq_none.mpr fun kv hk => by simpa using hn kv hk
      rw [this]; simp
    · rw [if_neg e]
      cases q : kvs.find? (fun kv => decide (kv.1 = k')) with
      | some _ => simp
      | none =>
        have e' : ¬ k = k' := fun x => e x.symm
        simp [e']
noncomputable def SeqKeep (D : List Addr) (h h' : Heap) : Prop := ∀ b o xs n, b ∉ D → o.data = .seq xs n → h.get? b = some o → h'.get? b = some o
theorem SeqKeep.off {V : Vd} {h h' : Heap} (k : SeqKeep V.all h h') : SeqKeep V.off h h' := fun b o xs n hb => k b o xs n fun q => hb (.tail _ q)
theorem ExAt.keeps {V : Vd} {h h' : Heap} (x : ExAt V h) (k : SeqKeep V.all h h') : ExAt V h' := by
  obtain ⟨n, vs, m, e⟩ := x
  exact ⟨n, vs, m, k _ _ _ _ n rfl e⟩
theorem WtAt.keepsX {V : Vd} {h h' : Heap} {kvs : List (Int × Value)} {wt : Int → Option (Nat → Int)} (x : WtAt V h kvs wt) (k : SeqKeep V.off h h') : WtAt V h' kvs wt := by
  intro j
  have := x j
  split
  · rename_i e; rw [e] at this; exact this
  · rename_i c e; rw [e] at this
    obtain ⟨a, vs, n, e1, e2, e3, e4⟩ := this
    exact ⟨a, vs, n, e1, e2, k _ _ _ _ e2 rfl e3, e4⟩
theorem WtAt.keeps {V : Vd} {h h' : Heap} {kvs : List (Int × Value)} {wt : Int → Option (Nat → Int)} (x : WtAt V h kvs wt) (k : SeqKeep V.all h h') : WtAt V h' kvs wt := x.keepsX k.off
theorem BlAt.keepsX {V : Vd} {h h' : Heap} {kvs : List (Int × Value)} {bl : Int → Option (List Int)} (x : BlAt V h kvs bl) (k : SeqKeep V.off h h') : BlAt V h' kvs bl := by
  intro j
  have := x j
  split
  · rename_i e; rw [e] at this; exact this
  · rename_i c e; rw [e] at this
    obtain ⟨a, vs, n, e1, e2, e3, e4⟩ := this
    exact ⟨a, vs, n, e1, e2, k _ _ _ _ e2 rfl e3, e4⟩
theorem BlAt.keeps {V : Vd} {h h' : Heap} {kvs : List (Int × Value)} {bl : Int → Option (List Int)} (x : BlAt V h kvs bl) (k : SeqKeep V.all h h') : BlAt V h' kvs bl := x.keepsX k.off
theorem WtAt.set {V : Vd} {h : Heap} {kvs : List (Int × Value)} {wt : Int → Option (Nat → Int)} (x : WtAt V h kvs wt) {t : Int} {c : Nat → Int} {a : Nat} {vs : Array Value} {n : Nat} (ha : a ∉ V.off)
    (e : h.get? a = some (lsO vs n)) (hs : Six vs c) : WtAt V h (stored kvs t (.ref a)) (fun k => if k = t then some c else wt k) := by
  intro j
  by_cases hj : j = t
  · subst hj
    simp only [if_true]
    exact ⟨a, vs, n, by rw [valueAt_stored, if_pos rfl], ha, e, hs⟩
  · simp only [if_neg hj]
    rw [valueAt_stored, if_neg hj]
    exact x j
theorem BlAt.set {V : Vd} {h : Heap} {kvs : List (Int × Value)} {bl : Int → Option (List Int)} (x : BlAt V h kvs bl) {t : Int} {l : List Int} {a : Nat} {vs : Array Value} {n : Nat} (ha : a ∉ V.off)
    (e : h.get? a = some (lsO vs n)) (hi : IntsAre vs.toList l) : BlAt V h (stored kvs t (.ref a)) (fun k => if k = t then some l else bl k) := by
  intro j
  by_cases hj : j = t
  · subst hj
    simp only [if_true]
    exact ⟨a, vs, n, by rw [valueAt_stored, if_pos rfl], ha, e, hi⟩
  · simp only [if_neg hj]
    rw [valueAt_stored, if_neg hj]
    exact x j
theorem Wrl.ex {w : World} {V : Vd} {i z : Nat} {ts : List Tm} {wt : Int → Option (Nat → Int)} {bl : Int → Option (List Int)} {h : Heap} (Z : Wrl w V i z ts wt bl h) : ∀ a ∈ V.all, ∃ o, h.get? a = some o := by
  obtain ⟨B, ⟨⟨_, _, _, hc, _⟩, ⟨_, hf, _⟩⟩, ⟨o1, o2, o3, k2, k3, Z⟩⟩ := Z
  obtain ⟨os, as, ss, ds, n1, n2, n3, n4, nes, nep, xs, C⟩ := B.core
  intro a ha
  simp only [Vd.all, List.mem_cons, List.not_mem_nil, or_false] at ha
  rcases ha with rfl | rfl | rfl | rfl | rfl | rfl | rfl | rfl | rfl | rfl | rfl | rfl | rfl
  · exact ⟨_, B.dict⟩
  · exact ⟨_, B.inst⟩
  · exact ⟨_, C.ops⟩
  · exact ⟨_, C.args⟩
  · exact ⟨_, C.sorts⟩
  · exact ⟨_, C.datas⟩
  · exact ⟨_, C.nums⟩
  · exact ⟨_, hf⟩
  · exact ⟨_, hc⟩
  · exact ⟨_, Z.pts⟩
  · exact ⟨_, Z.wo⟩
  · exact ⟨_, Z.wtg⟩
  · exact ⟨_, Z.blg⟩
theorem notall {V : Vd} {h : Heap} (x : ∀ a ∈ V.all, ∃ o, h.get? a = some o) {b : Addr} (n : h.get? b = none) : b ∉ V.all := fun q => by
  obtain ⟨o, e⟩ := x b q
  rw [n] at e; cases e
theorem notoff {V : Vd} {h : Heap} (x : ∀ a ∈ V.all, ∃ o, h.get? a = some o) (y : ExAt V h) {b : Addr} (n : h.get? b = none) : b ∉ V.off := fun q => by
  rcases List.mem_cons.mp q with rfl | q
  · obtain ⟨_, _, _, e⟩ := y
    rw [n] at e; cases e
  · exact notall x n q
theorem Feed.two {w : World} {feA ceA i : Nat} {h h' : Heap} (Fd : Feed w feA ceA i h) (k : ∀ b o, b = feA ∨ b = ceA → h.get? b = some o → h'.get? b = some o) : Feed w feA ceA i h' := by
  obtain ⟨⟨vs, ns, n, hc, r⟩, ⟨o, hf, q⟩⟩ := Fd
  exact ⟨⟨vs, ns, n, k _ _ (.inr rfl) hc, r⟩, ⟨o, k _ _ (.inl rfl) hf, q⟩⟩
end Mine

open PySem PySem.W PySem.Calls PyProof.Rows
set_option Elab.async false
set_option linter.all false
set_option maxRecDepth 100000
set_option maxHeartbeats 40000000
namespace Mine
section
variable {w : World} {mean : ExcName → Option Value} {mg mb : Str → Option Value} {A : Around} {s : Shared} {E : Value → Shared → Prop} {Q : Value → Shared → Prop}
  {name qual : Str} {params : Arguments} {body : List Stmt} {scope : Scope} {dV kV doc pm cdv ct oc : Value} {an od : Option Addr} {osl : Array (Option Value)} {f : Addr}
  {hb : Heap}
theorem call_PC {pos : List Value} {kw : List (Str × Value)} (D : List (Addr × Obj)) (binds : List (Str × Value)) (R : A.depth < recursionLimit) (G : Gd w mean mg mb hb) (kp : ∀ b o, hb.get? b = some o → s.heap.get? b = some o)
    (N : ∀ p ∈ D, s.heap.get? p.1 = some p.2 ∧ hb.get? p.1 = none)
    (h : ∀ g L' h₁ tk cells, (∀ h' L'' m, Fr g L'' h' m → Keep (D.map (·.1)) s.heap h') → (∀ b o, b ∉ D.map (·.1) → s.heap.get? b = some o → g.get? b = some o) → (∀ b o, hb.get? b = some o → g.get? b = some o) →
      Fr g L' h₁ (bindL (envOfC qual scope L' f cdv).kindOf binds fun _ => none) → News g L' h₁ (cells ++ D) → CellsAre (bindC (envOfC qual scope L' f cdv).kindOf binds fun _ => none) (cellsFrom (L' + 1) scope.names []) cells → (heapK w.params).In g → Top viewK LO mean mg mb g → (∀ p ∈ D, p.1 < L') →
      wpAny (model PySem.Challenge.rw_sj0101_01.row.prog w) (A.deeper (envOfC qual scope L' f cdv)) (execs body (envOfC qual scope L' f cdv)) (fun fl s' => Q (match fl with | .ret v => v | _ => .none) s') (fun _ _ => False)
        { s with heap := h₁, toks := tk })
    (ho : autoParam ((heapK w.params).lookup f = some ⟨oc, od, .func (fnOf name qual params body scope dV kV doc pm an cdv ct), osl⟩) Mine.aT0._auto_1) (hcd : autoParam (codeIn (heapK w.params) cdv qual = true) Mine.aT0._auto_1)
    (hbind : BindsTo s (fnOf name qual params body scope dV kV doc pm an cdv ct) ⟨pos, kw⟩ binds := by exact BindsTo.of_eq rfl)
    (hkind : autoParam ((binds.all fun y => scope.names.lookup y.1 == some .local || scope.names.lookup y.1 == some .cell) = true) Mine.aT11._auto_1)
    (hnd : ((cellsFrom 0 scope.names []).map (·.1)).Nodup := by decide +kernel)
    (hco : autoParam (scope.isCoroutine = false) Mine.aT1._auto_1) (hgen : autoParam (scope.isGenerator = false) Mine.aT1._auto_1) (hk : autoParam (scope.kind = .function) Mine.aT1._auto_1) : wpAny (model PySem.Challenge.rw_sj0101_01.row.prog w) A (call (.ref f) pos kw) Q E s := by
  have nm : ∀ b o, hb.get? b = some o → b ∉ D.map (·.1) := fun b o e q => by
    obtain ⟨p, hp, rfl⟩ := List.mem_map.mp q
    rw [(N p hp).2] at e; cases e
  have st : ∀ b o, hb.get? b = some o → (hideAll s.heap (D.map (·.1))).get? b = some o := fun b o e => hideAll_get _ (kp b o e) (nm b o e)
  have G' := G.keeps st
  have Gs := G.keeps kp
  refine wpAny_call ?_
  refine codeAny_call_function R (Gs.X _ _ ho) rfl hco hgen rfl (codeRec_of Gs.X hcd) (hbind _ _ _ _ ?_)
  refine wpAny_newFunctionEnv_cells hk (kindsX hkind _) fun env' he s' x => ?_
  subst he
  refine ⟨Gs.T.nolimit.keeps x.toInCall.keep, codeAny_func ?_⟩
  obtain ⟨h₁, tk, rfl, _⟩ := x.done
  have hk₁ := x.toInCall.keep
  obtain ⟨cells, NC, Y⟩ := Cl.news (h₀ := s.heap) (Nat.le_refl _) fun n c hm => ⟨x.cell n c (lookup_of_mem_nodup (cellsFrom_names scope.names 0 (s.heap.objs.size + 1) [] [] rfl ▸ hnd) hm), x.above n c hm⟩
  refine wpAny_mono (h (hideAll s.heap (D.map (·.1))) s.heap.objs.size h₁ tk cells (fun h' L'' m F => hide_keep F) (fun b o n e => hideAll_get _ e n) st
    ⟨x.toInCall.ns, fun b o e => hk₁ b o (of_hideAll _ e), Nat.le_of_eq (hideAll_size _ _)⟩ (fun p hp => ?_) Y G'.X G'.T (fun p hp => Heap.lt_size (N p hp).1)) (fun fl s' hl => hl) fun _ _ y => y.elim
  rcases List.mem_append.mp hp with hp | hp
  · refine ⟨(NC p hp).1, (NC p hp).2.1, ?_⟩
    cases q : (hideAll s.heap (D.map (·.1))).get? p.1 with
    | none => rfl
    | some o => have := of_hideAll _ q; rw [(NC p hp).2.2] at this; cases this
  · exact ⟨hk₁ _ _ (N p hp).1, Nat.ne_of_lt (Heap.lt_size (N p hp).1), hideAll_none _ (List.mem_map_of_mem hp)⟩
end
end Mine

open PySem PySem.W PySem.Calls PyProof.Rows
set_option Elab.async false
set_option linter.all false
set_option maxRecDepth 100000
set_option maxHeartbeats 40000000
namespace Mine
noncomputable def locsOf (k : Str → Option NameKind) : List (Str × Value) → Mp → Mp
  | [], m => m
  | (n, v) :: r, m => locsOf k r (if k n = some .local then (n, v) :: m else m)
theorem locsOf_lk (k : Str → Option NameKind) : ∀ (b : List (Str × Value)) (m : Mp), bindL k b (lk m) = lk (locsOf k b m)
  | [], _ => rfl
  | (n, v) :: r, m => by
    show bindL k r (if k n = some .local then _ else lk m) = lk (locsOf k r (if k n = some .local then (n, v) :: m else m))
    by_cases h : k n = some .local
    · rw [if_pos h, if_pos h, lk_put]; exact locsOf_lk k r _
    · rw [if_neg h, if_neg h]; exact locsOf_lk k r _
inductive Cells : List (Addr × Option Value) → Led → Prop
  | nil : Cells [] []
  | cons {c v o vs l} : o.data = .cell v → Cells vs l → Cells ((c, v) :: vs) ((c, o) :: l)
theorem Cells.of {cm : Str → Option Value} {cs : List (Str × Addr)} {cells : Led} (X : CellsAre cm cs cells) : Cells (cs.map fun x => (x.2, cm x.1)) cells := by
  induction X with
  | nil => exact .nil
  | cons h r ih => exact .cons h ih
theorem Cells.one {c : Addr} {v : Option Value} {l : Led} (h : Cells [(c, v)] l) : ∃ o, o.data = .cell v ∧ l = [(c, o)] := by cases h with | cons h r => cases r; exact ⟨_, h, rfl⟩
theorem Cells.two {c c2 : Addr} {v v2 : Option Value} {l : Led} (h : Cells [(c, v), (c2, v2)] l) : ∃ o o2, o.data = .cell v ∧ o2.data = .cell v2 ∧ l = [(c, o), (c2, o2)] := by cases h with | cons h r => cases r with | cons h2 r => cases r; exact ⟨_, _, h, h2, rfl⟩
theorem Cells.adr {vs : List (Addr × Option Value)} {l : Led} (h : Cells vs l) : l.map (·.1) = vs.map (·.1) := by
  induction h with
  | nil => rfl
  | cons _ _ ih => exact congrArg _ ih
theorem AscNd {D : Led} (nd : Nd D) {L : Addr} (hD : ∀ p ∈ D, p.1 < L) : ∀ {cells : Led}, (cells.map (·.1)).Nodup → (∀ a ∈ cells.map (·.1), L < a) → Nd (cells ++ D) := fun {cells} n h =>
  List.pairwise_append.mpr ⟨List.pairwise_map.mp n, nd, fun p hp q hq e => absurd (Nat.lt_trans (h _ (List.mem_map_of_mem hp)) (e ▸ hD q hq)) (Nat.lt_irrefl _)⟩
section
variable {w : World} {mean : ExcName → Option Value} {mg mb : Str → Option Value} {dp un : Nat} {fr : Option (List Env)} {gd : Option (List Code)} {s : Shared} {E : Value → Shared → Prop} {Q : Value → Shared → Prop}
  {name qual : Str} {params : Arguments} {body : List Stmt} {scope : Scope} {dV kV doc pm cdv ct oc : Value} {an od : Option Addr} {osl : Array (Option Value)} {f : Addr} {hb : Heap} {n : Nat}
theorem call_JC {pos : List Value} (D : Led) (binds : List (Str × Value)) (vs : Addr → List (Addr × Option Value)) (mm : Mp) (R : Room dp un (n + 1)) (G : Gd w mean mg mb hb) (kp : ∀ b o, hb.get? b = some o → s.heap.get? b = some o) (hD : ∀ p ∈ D, s.heap.get? p.1 = some p.2 ∧ hb.get? p.1 = none) (nd : Nd D)
    (h : ∀ c : Cx, Gc w c → Rm c n → EnvX c (envOfC qual scope c.L f cdv) → Ent c s.heap hb D → ∀ cells, Cells (vs c.L) cells →
      J w c (cells ++ D) mm (execs body (envOfC qual scope c.L f cdv)) (KFin c D s Q))
    (ho : autoParam ((heapK w.params).lookup f = some ⟨oc, od, .func (fnOf name qual params body scope dV kV doc pm an cdv ct), osl⟩) Mine.aT0._auto_1) (hcd : autoParam (codeIn (heapK w.params) cdv qual = true) Mine.aT0._auto_1)
    (hbind : BindsTo s (fnOf name qual params body scope dV kV doc pm an cdv ct) ⟨pos, []⟩ binds := by exact BindsTo.of_eq rfl)
    (hkind : autoParam ((binds.all fun y => scope.names.lookup y.1 == some .local || scope.names.lookup y.1 == some .cell) = true) Mine.aT11._auto_1)
    (hnd : ((cellsFrom 0 scope.names []).map (·.1)).Nodup := by decide +kernel)
    (hco : autoParam (scope.isCoroutine = false) Mine.aT1._auto_1) (hgen : autoParam (scope.isGenerator = false) Mine.aT1._auto_1) (hk : autoParam (scope.kind = .function) Mine.aT1._auto_1)
    (hvs : ∀ L, (cellsFrom (L + 1) scope.names []).map (fun x => (x.2, bindC (envOfC qual scope L f cdv).kindOf binds (fun _ => none) x.1)) = vs L := by exact fun _ => rfl)
    (hmm : ∀ L, locsOf (envOfC qual scope L f cdv).kindOf binds [] = mm := by exact fun _ => rfl)
    (hvn : ∀ L, ((vs L).map (·.1)).Nodup ∧ ∀ a ∈ (vs L).map (·.1), L < a) : wpAny (model PR w) (AR dp un fr gd) (call (.ref f) pos []) Q E s := by
  have rdp := R.dp
  have run := R.un
  refine call_PC D binds (by show dp < _; lia) G kp hD ?_ ho hcd hbind hkind hnd hco hgen hk
  intro g L' h₁ tk cells hkp gs gb F N Y X T ll
  have Y' : Cells (vs L') cells := hvs L' ▸ Cells.of Y
  have F' : Fr g L' h₁ (lk mm) := hmm L' ▸ locsOf_lk (envOfC qual scope L' f cdv).kindOf binds [] ▸ F
  refine J.start (c := ⟨(AR dp un fr gd).deeper (envOfC qual scope L' f cdv), g, L', s.gens, s.drawn, s.os⟩) ⟨F', N, AscNd nd ll (by rw [Y'.adr]; exact (hvn L').1) (by rw [Y'.adr]; exact (hvn L').2)⟩ ?_
  refine (h ⟨(AR dp un fr gd).deeper (envOfC qual scope L' f cdv), g, L', s.gens, s.drawn, s.os⟩ ⟨X, _, _, _, T⟩ ⟨dp + 1, un + 3, fr.map (envOfC qual scope L' f cdv :: ·), gd, rfl, ⟨by lia, by lia⟩⟩ ⟨_, _, _, _, _, rfl, hk⟩ ⟨gs, gb, ll⟩ cells Y').mono ?_
  intro fl l m k h tk O
  have := k h tk O (hkp _ _ _ O.F)
  cases fl <;> exact this
end
section
variable {w : World} {c : Cx} {l : Led} {m : Mp} {P : Value → Led → Mp → Prop} {env : Env} {x : Str} {v : Value} {o : Obj} {K : Addr} {pos : Pos}
theorem J.nameC (i : Nat) (hc : env.cells.lookup x = some K) (h1 : nth l i = some (K, o)) (hd : o.data = .cell (some v)) (k : P v l m) (hk : autoParam (env.scope.kind = .function) Mine.aT3._auto_1) (hx : autoParam (env.kindOf x = some .cell) Mine.aT3._auto_1) (hb : autoParam ((x == ("__debug__" : Str)) = false) Mine.aT5._auto_1) :
    J w c l m (eval (.Name x pos) env) P := fun _ _ O => wpAny_Name (wpAny_loadName_cell hk hx hc ⟨o, O.N.get (nth_mem h1), hd⟩ ⟨_, _, _, _, rfl, O, k⟩) hb
theorem J.nameN {m₂ : Str → Option Value} (i : Nat) (h1 : nth l i = some (env.locals, o)) (ns : LCg.NsObj o m₂) (hv : m₂ x = some v) (k : P v l m) (hk : autoParam (env.scope.kind = .function) Mine.aT3._auto_1) (hx : autoParam (env.kindOf x = some .local) Mine.aT3._auto_1) (hb : autoParam ((x == ("__debug__" : Str)) = false) Mine.aT5._auto_1) :
    J w c l m (eval (.Name x pos) env) P := fun _ _ O => wpAny_Name (wpAny_loadName_local hk hx (ns.ns (O.N.get (nth_mem h1))) hv ⟨_, _, _, _, rfl, O, k⟩) hb
theorem J.nameKe (G : Gc w c) (k : P v l m) (hg : autoParam (env.globals = mainGlobals) Mine.aT3._auto_1) (hk : autoParam (env.scope.kind = .function) Mine.aT3._auto_1) (hx : autoParam (env.kindOf x = some .globalImplicit) Mine.aT3._auto_1) (e : autoParam (nsIn (heapK w.params) mainGlobals x = some (some v)) Mine.aT6._auto_1) (hb : autoParam ((x == ("__debug__" : Str)) = false) Mine.aT5._auto_1) :
    J w c l m (eval (.Name x pos) env) P := fun _ _ O => by
  obtain ⟨_, _, _, T⟩ := G.T
  exact Name_function_global hk hx (loadGlobal_global (hg ▸ T.g.keeps O.F.keep) (mg_of G.X T.g e) ⟨_, _, _, _, rfl, O, k⟩) hb
theorem J.nameBe (G : Gc w c) (k : P v l m) (hg : autoParam (env.globals = mainGlobals ∧ env.builtins = builtinsNs) Mine.aT12._auto_1) (hk : autoParam (env.scope.kind = .function) Mine.aT3._auto_1) (hx : autoParam (env.kindOf x = some .globalImplicit) Mine.aT3._auto_1) (e : autoParam (nsIn (heapK w.params) mainGlobals x = some none) Mine.aT6._auto_1)
    (hv : autoParam (bootBuiltins x = some v) Mine.aT7._auto_1) (hn : autoParam (x ≠ "__name__") Mine.aT5._auto_1) (hb : autoParam ((x == ("__debug__" : Str)) = false) Mine.aT5._auto_1) : J w c l m (eval (.Name x pos) env) P := fun _ _ O => by
  obtain ⟨_, _, _, T⟩ := G.T
  exact Name_function_global hk hx (loadGlobal_builtin (hg.1 ▸ T.g.keeps O.F.keep) (mg_none_of G.X T.g e) (hg.2 ▸ T.b.keeps O.F.keep) ((T.builtins x hn).trans hv) ⟨_, _, _, _, rfl, O, k⟩) hb
end
open LCg
theorem off3_nd {I C D : Addr} {oI oC oD : Obj} {l : Led} (nd : Nd ((I, oI) :: (C, oC) :: (D, oD) :: l)) : Off3 I C D l := Off3.of fun p hp => by
  have n1 := List.pairwise_cons.mp nd
  have n2 := List.pairwise_cons.mp n1.2
  have n3 := List.pairwise_cons.mp n2.2
  exact ⟨(n1.1 p (.tail _ (.tail _ hp))).symm, (n2.1 p (.tail _ hp)).symm, (n3.1 p hp).symm⟩
theorem nd_off3 {I C D : Addr} {oI oC oD : Obj} {l : Led} (nd : Nd l) (o : Off3 I C D l) (ne : (@Ne Nat I C) ∧ (@Ne Nat I D) ∧ (@Ne Nat C D)) : Nd ((I, oI) :: (C, oC) :: (D, oD) :: l) := by
  have om := o.mem
  refine List.pairwise_cons.mpr ⟨fun q hq => ?_, List.pairwise_cons.mpr ⟨fun q hq => ?_, List.pairwise_cons.mpr ⟨fun q hq => (om q hq).2.2.symm, nd⟩⟩⟩
  · rcases List.mem_cons.mp hq with rfl | hq
    · exact ne.1
    · rcases List.mem_cons.mp hq with rfl | hq
      · exact ne.2.1
      · exact (om q hq).1.symm
  · rcases List.mem_cons.mp hq with rfl | hq
    · exact ne.2.2
    · exact (om q hq).2.1.symm
theorem nd_off1 {D : Addr} {oD : Obj} : ∀ {l : Led}, Nd l → Off1 D l → Nd ((D, oD) :: l)
  | [], nd, _ => List.pairwise_cons.mpr ⟨(fun _ h => nomatch h), nd⟩
  | p :: r, nd, ⟨a, b⟩ => by
    have := nd_off1 (oD := oD) (List.pairwise_cons.mp nd).2 b
    refine List.pairwise_cons.mpr ⟨fun q hq => ?_, nd⟩
    rcases List.mem_cons.mp hq with rfl | hq
    · exact a.symm
    · exact (List.pairwise_cons.mp this).1 q hq
section
variable {w : World} {c : Cx} {l : Led} {m : Mp} {P : Value → Led → Mp → Prop} {env : Env} {elt iter : PySem.Expr} {x : Str} {px pos : Pos} {scope : Scope} {cl : List (Str × Addr)}
theorem rest_of {s₂ : Shared} {h0 : Heap} {tk0 : Nat} (e : s₂ = c.st h0 tk0) {S : Led → Prop} {Pi : Nat → Value → Prop} {Inv : Nat → List Value → Led → Prop} {Fin : List Value → Led → Prop} {n : Nat}
    (turn : ∀ i v I oI C oC D ys l1 m₂, Pi i v → Inv i ys l1 → NsObj oC m₂ → m₂ x = some v →
      J w c ((I, oI) :: (C, oC) :: (D, lst ys) :: l1) m (eval elt (compEnvC scope cl C env)) (fun y l2 m2 => m2 = m ∧ ∃ l3, ((I, oI) :: (C, oC) :: (D, lst ys) :: l3).Sublist l2 ∧ S l3 ∧ Inv (i + 1) (ys ++ [y]) l3))
    (fin : ∀ ys l1, Nd l1 → Inv n ys l1 → Fin ys l1) : ∀ (k i : Nat) (ys : List Value) (l1 : Led), i + k = n → Nd l1 → Inv i ys l1 → CompRest PR w c.A c.g c.L (lk m) env elt x scope cl s₂ S Pi Fin k i ys l1 := by
  subst e
  intro k
  induction k with
  | zero => intro i ys l1 e nd inv; exact fin ys l1 nd (by rw [← e]; exact inv)
  | succ k ih =>
    intro i ys l1 e nd inv v I oI C oC D m₂ h tk E' hP ns hx F N off ne
    refine wpAny_mono (J.run (turn i v I oI C oC D ys l1 m₂ hP inv ns hx) ⟨F, N, nd_off3 nd off ne⟩ ?_) (fun _ _ h => h) fun _ _ e => False.elim e
    rintro y l2 m2 h2 tk2 O2 ⟨rfl, l3, sub, hS, inv'⟩
    have n3 : Nd ((I, oI) :: (C, oC) :: (D, lst ys) :: l3) := O2.nd.sublist sub
    exact ⟨h2, tk2, l3, rfl, O2.F, fun p hp => O2.N p (sub.subset hp), off3_nd n3, hS, ih (i + 1) _ l3 (by lia) (List.pairwise_cons.mp (List.pairwise_cons.mp (List.pairwise_cons.mp n3).2).2).2 inv'⟩
inductive KCompU (w : World) (c : Cx) (m : Mp) (P : Value → Led → Mp → Prop) (env : Env) (elt : PySem.Expr) (x : Str) (scope : Scope) (cl : List (Str × Addr)) (Inv : Nat → List Value → Led → Prop) (xv : Value) (l : Led) (m' : Mp) : Prop
  | mk (em : m' = m) (ax : Addr) (its : Array Value) (e : xv = .ref ax) (src : SrcAt c.g ax its l) (hz : its.size ≤ sizeLine) (inv : Inv 0 [] l)
      (turn : ∀ i v I oI C oC D ys l1 m₂, its[i]? = some v → Inv i ys l1 → NsObj oC m₂ → m₂ x = some v →
        J w c ((I, oI) :: (C, oC) :: (D, lst ys) :: l1) m (eval elt (compEnvC scope cl C env)) (fun y l2 m2 => m2 = m ∧ ∃ l3, ((I, oI) :: (C, oC) :: (D, lst ys) :: l3).Sublist l2 ∧ SrcAt c.g ax its l3 ∧ Inv (i + 1) (ys ++ [y]) l3))
      (fin : ∀ ys D l1, Inv its.size ys l1 → P (.ref D) ((D, lsO ys.toArray ys.length) :: l1) m) : KCompU w c m P env elt x scope cl Inv xv l m'
theorem J.compU (Rh : c.A.handled = none) (Inv : Nat → List Value → Led → Prop) (hclos : closureFor scope env = pure cl)
    (k : J w c l m (eval iter env) (KCompU w c m P env elt x scope cl Inv))
    (hcell : autoParam (∀ y ∈ scope.names, y.2 ≠ .cell) Mine.aT5._auto_1) (hkind : autoParam (scope.kind = .function) Mine.aT3._auto_1) (hnames : autoParam (∀ y ∈ scope.names, y.2 = .local → scope.names.lookup y.1 = some .local) Mine.aT5._auto_1) (hx : autoParam (scope.names.lookup x = some .local) Mine.aT3._auto_1)
    (hs : autoParam (∀ x, foldedSetIterable iter env x = pure x) Mine.aT9._auto_1) : J w c l m (eval (.ListComp elt [⟨.Name x px, iter, [], 0⟩] scope pos) env) P := fun h0 tk0 O0 => by
  refine ListComp_U O0.F hclos hcell hkind hnames hx (J.run k O0 ?_) hs
  rintro xv l m h tk O ⟨rfl, ax, its, rfl, src, hz, inv, turn, fin⟩
  refine .inl ⟨ax, its, l, rfl, Rh, O.F, O.N, src, hz, ?_⟩
  rintro s₂ ⟨g, rfl⟩
  have fin' : ∀ ys l1, Nd l1 → Inv its.size ys l1 → FinE c.g c.L (lk m) (c.st g tk) (Post c P) ys l1 := fun ys l1 nd inv D h' tk' F' N' o1 => ⟨_, _, _, _, rfl, ⟨F', N', nd_off1 nd o1⟩, fin ys D l1 inv⟩
  exact rest_of (h0 := g) (tk0 := tk) rfl turn fin' its.size 0 [] l (Nat.zero_add _) O.nd inv
inductive KElt (m : Mp) (n : Int) (l0 : Led) (y : Value) (l2 : Led) (m2 : Mp) : Prop
  | mk (em : m2 = m) (t : Tok) (ey : y = .int n t) (pre : Led) (el : l2 = pre ++ l0) : KElt m n l0 y l2 m2
inductive KCompI (w : World) (c : Cx) (l : Led) (m : Mp) (P : Value → Led → Mp → Prop) (env : Env) (elt : PySem.Expr) (x : Str) (scope : Scope) (cl : List (Str × Addr)) (f : Nat → Int) (n : Nat) (xv : Value) (l' : Led) (m' : Mp) : Prop
  | mk (em : m' = m) (el : l' = l) (ax : Addr) (its : Array Value) (e : xv = .ref ax) (src : SrcAt c.g ax its l) (hz : its.size = n)
      (turn : ∀ i v I oI C oC D ys m₂, its[i]? = some v → NsObj oC m₂ → m₂ x = some v → J w c ((I, oI) :: (C, oC) :: (D, lst ys) :: l) m (eval elt (compEnvC scope cl C env)) (KElt m (f i) ((I, oI) :: (C, oC) :: (D, lst ys) :: l)))
      (fin : ∀ ys D, IntsF f n ys → P (.ref D) ((D, lsO ys.toArray ys.length) :: l) m) : KCompI w c l m P env elt x scope cl f n xv l' m'
theorem J.compI {n N : Nat} (R : Rm c N) (f : Nat → Int) (hn : n ≤ 1000) (hclos : closureFor scope env = pure cl)
    (k : J w c l m (eval iter env) (KCompI w c l m P env elt x scope cl f n))
    (hcell : autoParam (∀ y ∈ scope.names, y.2 ≠ .cell) Mine.aT5._auto_1) (hkind : autoParam (scope.kind = .function) Mine.aT3._auto_1) (hnames : autoParam (∀ y ∈ scope.names, y.2 = .local → scope.names.lookup y.1 = some .local) Mine.aT5._auto_1) (hx : autoParam (scope.names.lookup x = some .local) Mine.aT3._auto_1)
    (hs : autoParam (∀ x, foldedSetIterable iter env x = pure x) Mine.aT9._auto_1) : J w c l m (eval (.ListComp elt [⟨.Name x px, iter, [], 0⟩] scope pos) env) P := by
  obtain ⟨dp, un, fr, gd, eA, _⟩ := R
  refine J.compU (by rw [eA]) (fun i ys l1 => l1 = l ∧ IntsF f i ys) hclos (k.mono ?_) hcell hkind hnames hx hs
  rintro xv l' m' ⟨rfl, rfl, ax, its, rfl, src, rfl, turn, fin⟩
  refine ⟨rfl, ax, its, rfl, src, by rw [sizeLine_eq]; lia, ⟨rfl, .nil⟩, fun i v I oI C oC D ys l1 m₂ hv inv ns hx => ?_, fun ys D l1 inv => ?_⟩
  · obtain ⟨rfl, inv⟩ := inv
    refine (turn i v I oI C oC D ys m₂ hv ns hx).mono ?_
    rintro y l2 m2 ⟨rfl, t, rfl, pre, rfl⟩
    exact ⟨rfl, _, List.sublist_append_right _ _, src, rfl, inv.snoc t⟩
  · obtain ⟨rfl, inv⟩ := inv
    exact fin ys D inv
end
end Mine

open PySem PySem.W PySem.Calls PyProof.Rows
set_option Elab.async false
set_option linter.all false
set_option maxRecDepth 100000
set_option maxHeartbeats 40000000
namespace Mine
structure BkL (w : World) (W : Wd) (ts : List Tm) (h : Heap) (R : Led) : Prop where
  at_ : ∀ p ∈ R, h.get? p.1 = some p.2
  adr : R.map (·.1) = W.bank
  nt : ∀ p ∈ R, p.2.cls ≠ .type "tuple"
  fix : ∀ p ∈ R, p.1 ∈ W.core ∨ (p.1 = W.dA ∧ p.2 = dictOf (bankEs w W) 14) ∨ (p.1 = W.bA ∧ p.2 = instObj 656 W.dA)
  bk : ∀ c : Cx, TupKeep h c.g → BkD w c W ts R
theorem Bank.led {w : World} {W : Wd} {ts : List Tm} {h : Heap} (B : Bank w W ts h) : ∃ R, BkL w W ts h R := by
  refine B.core.cases fun os as ss ds n1 n2 n3 n4 nes nep xs C => ?_
  have mc := @Wd.memC W
  exact ⟨_, all7 B.dict B.inst C.ops C.args C.sorts C.datas C.nums, rfl, noT7, all7 (.inr (.inl ⟨rfl, rfl⟩)) (.inr (.inr ⟨rfl, rfl⟩)) (.inl mc.1) (.inl mc.2.1) (.inl mc.2.2.1) (.inl mc.2.2.2.1) (.inl mc.2.2.2.2), fun c k => bkD C k⟩
noncomputable abbrev Vd.led (V : Vd) (o1 o2 o3 : Obj) (R : Led) : Led := (V.ptA, V.pts) :: (V.woA, o1) :: (V.wtA, o2) :: (V.blA, o3) :: R
theorem Wd.Ok.leN {W : Wd} (k : W.Ok) : ∀ a ∈ W.bank, @LE.le Nat _ W.dA a ∧ @LE.le Nat _ a W.nA := by
  have h6 : @LE.le Nat _ W.daA W.nA := Nat.le_of_lt k.o11
  have h5 : @LE.le Nat _ W.soA W.nA := Nat.le_trans (Nat.le_of_lt k.o10) h6
  have h4 : @LE.le Nat _ W.aA W.nA := Nat.le_trans (Nat.le_of_lt k.o9) h5
  have h3 : @LE.le Nat _ W.oA W.nA := Nat.le_trans (Nat.le_of_lt k.o8) h4
  have h2 : @LE.le Nat _ W.bA W.nA := Nat.le_trans (Nat.le_of_lt k.bo) h3
  have g2 : @LE.le Nat _ W.dA W.bA := Nat.le_of_lt k.o1
  have g3 := Nat.le_trans g2 (Nat.le_of_lt k.bo)
  have g4 := Nat.le_trans g3 (Nat.le_of_lt k.o8)
  have g5 := Nat.le_trans g4 (Nat.le_of_lt k.o9)
  have g6 := Nat.le_trans g5 (Nat.le_of_lt k.o10)
  exact List.forall_mem_cons.mpr ⟨⟨Nat.le_refl _, Nat.le_trans g2 h2⟩, List.forall_mem_cons.mpr ⟨⟨g2, h2⟩, List.forall_mem_cons.mpr ⟨⟨g3, h3⟩, List.forall_mem_cons.mpr ⟨⟨g4, h4⟩, List.forall_mem_cons.mpr ⟨⟨g5, h5⟩, List.forall_mem_cons.mpr ⟨⟨g6, h6⟩,
    List.forall_mem_cons.mpr ⟨⟨Nat.le_trans g6 h6, Nat.le_refl _⟩, List.forall_mem_nil _⟩⟩⟩⟩⟩⟩⟩
theorem Vd.bank_all {V : Vd} : ∀ a ∈ V.W.bank, a ∈ V.all := fun a h => List.mem_append_left (as := V.W.bank) [V.feA, V.ceA, V.ptA, V.woA, V.wtA, V.blA] h
theorem Vd.Ok.nd {V : Vd} (k : V.Ok) {w : World} {ts : List Tm} {h : Heap} {R : Led} (B : BkL w V.W ts h R) {a b c d : Obj} : Nd ((V.ptA, a) :: (V.woA, b) :: (V.wtA, c) :: (V.blA, d) :: R) := by
  have hR : ∀ p ∈ R, @LT.lt Nat _ p.1 V.ptA := fun p hp => Nat.lt_of_le_of_lt (k.wok.leN _ (B.adr ▸ List.mem_map_of_mem hp)).2 k.a3
  have nR : Nd R := by
    have n := k.wok.nd (a := a) (b := a) (c := a) (d := a) (e := a) (f := a) (g := a)
    have e : (List.map (·.1) [(V.W.dA, a), (V.W.bA, a), (V.W.oA, a), (V.W.aA, a), (V.W.soA, a), (V.W.daA, a), (V.W.nA, a)]) = R.map (·.1) := B.adr.symm
    have := List.pairwise_map.mpr n
    rw [e] at this
    exact List.pairwise_map.mp this
  have l1 := k.a4
  have l2 := Nat.lt_trans l1 k.a5
  have l3 := Nat.lt_trans l2 k.a6
  refine List.pairwise_cons.mpr ⟨List.forall_mem_cons.mpr ⟨Nat.ne_of_lt l1, List.forall_mem_cons.mpr ⟨Nat.ne_of_lt l2, List.forall_mem_cons.mpr ⟨Nat.ne_of_lt l3, fun p hp => (Nat.ne_of_lt (hR p hp)).symm⟩⟩⟩, ?_⟩
  refine List.pairwise_cons.mpr ⟨List.forall_mem_cons.mpr ⟨Nat.ne_of_lt k.a5, List.forall_mem_cons.mpr ⟨Nat.ne_of_lt (Nat.lt_trans k.a5 k.a6), fun p hp => (Nat.ne_of_lt (Nat.lt_trans (hR p hp) l1)).symm⟩⟩, ?_⟩
  refine List.pairwise_cons.mpr ⟨List.forall_mem_cons.mpr ⟨Nat.ne_of_lt k.a6, fun p hp => (Nat.ne_of_lt (Nat.lt_trans (hR p hp) l2)).symm⟩, ?_⟩
  exact List.pairwise_cons.mpr ⟨fun p hp => (Nat.ne_of_lt (Nat.lt_trans (hR p hp) l3)).symm, nR⟩
theorem Vd.four {V : Vd} : V.ptA ∈ V.all ∧ V.woA ∈ V.all ∧ V.wtA ∈ V.all ∧ V.blA ∈ V.all := by simp [Vd.all]
theorem Wrl.open {w : World} {V : Vd} {i z : Nat} {ts : List Tm} {wt : Int → Option (Nat → Int)} {bl : Int → Option (List Int)} {h hb : Heap} (vok : V.Ok) (Z : Wrl w V i z ts wt bl h) (hhi : ∀ a ∈ V.all, hb.get? a = none) {P : Prop}
    (k : ∀ o1 o2 o3 k2 k3 R, WorldAt w V z wt bl o1 o2 o3 k2 k3 h → Feed w V.feA V.ceA i h → BkL w V.W ts h R → (∀ p ∈ V.led o1 o2 o3 R, h.get? p.1 = some p.2 ∧ hb.get? p.1 = none) → Nd (V.led o1 o2 o3 R) → (∀ p ∈ V.led o1 o2 o3 R, p.2.cls ≠ .type "tuple") → P) : P := by
  obtain ⟨B, Fd, o1, o2, o3, k2, k3, Z⟩ := Z
  obtain ⟨R, BL⟩ := B.led
  have v4 := @Vd.four V
  refine k o1 o2 o3 k2 k3 R Z Fd BL ?_ (vok.nd BL) ?_
  · exact List.forall_mem_cons.mpr ⟨⟨Z.pts, hhi _ v4.1⟩, List.forall_mem_cons.mpr ⟨⟨Z.wo, hhi _ v4.2.1⟩, List.forall_mem_cons.mpr ⟨⟨Z.wtg, hhi _ v4.2.2.1⟩, List.forall_mem_cons.mpr ⟨⟨Z.blg, hhi _ v4.2.2.2⟩,
      fun p hp => ⟨BL.at_ p hp, hhi _ (Vd.bank_all _ (BL.adr ▸ List.mem_map_of_mem hp))⟩⟩⟩⟩⟩
  · exact List.forall_mem_cons.mpr ⟨by simp, List.forall_mem_cons.mpr ⟨by simp [IsDictOf.cls Z.d1], List.forall_mem_cons.mpr ⟨by simp [IsDictOf.cls Z.d2], List.forall_mem_cons.mpr ⟨by simp [IsDictOf.cls Z.d3], BL.nt⟩⟩⟩⟩
theorem Vd.core_mut {V : Vd} : ∀ a ∈ V.W.core, a ∈ V.mut := fun a h => List.mem_append_left (as := V.W.core) [V.feA, V.wtA, V.blA] h
theorem Vd.wb_mut {V : Vd} : V.wtA ∈ V.mut ∧ V.blA ∈ V.mut := by simp [Vd.mut]
theorem Vd.Ok.loFe {V : Vd} (k : V.Ok) {w : World} {ts : List Tm} {h : Heap} {R : Led} (B : BkL w V.W ts h R) {a b c d : Obj} : ∀ x ∈ ((V.ptA, a) :: (V.woA, b) :: (V.wtA, c) :: (V.blA, d) :: R).map (·.1), @LT.lt Nat _ V.ceA x := by
  have l0 : @LT.lt Nat _ V.ceA V.ptA := Nat.lt_trans (Nat.lt_of_lt_of_le k.a2 (k.wok.leN _ (Wd.mem (W := V.W)).1).2) k.a3
  have l1 := Nat.lt_trans l0 k.a4
  have l2 := Nat.lt_trans l1 k.a5
  refine List.forall_mem_cons.mpr ⟨l0, List.forall_mem_cons.mpr ⟨l1, List.forall_mem_cons.mpr ⟨l2, List.forall_mem_cons.mpr ⟨Nat.lt_trans l2 k.a6, fun x hx => ?_⟩⟩⟩⟩
  exact Nat.lt_of_lt_of_le k.a2 (k.wok.leN _ (B.adr ▸ hx)).1
theorem Wrl.fin {w : World} {V : Vd} {i z : Nat} {ts ts' : List Tm} {wt : Int → Option (Nat → Int)} {bl : Int → Option (List Int)} {sh hb h : Heap} {o1 o2 o3 o2' o3' : Obj} {k2 k3 : List (Int × Value)} {R R' pre : Led} {c : Cx} {m : Mp} {t : Int} {a b : Nat} {cf : Nat → Int} {l : List Int} {n n2 : Nat} {vs ws : Array Value}
    (vok : V.Ok) (Z : WorldAt w V z wt bl o1 o2 o3 k2 k3 sh) (Fd : Feed w V.feA V.ceA i sh) (x : ∀ a ∈ V.all, ∃ o, sh.get? a = some o) (BL : BkL w V.W ts sh R) (ND : ∀ p ∈ V.led o1 o2 o3 R, sh.get? p.1 = some p.2 ∧ hb.get? p.1 = none) (en : Ent c sh hb (V.led o1 o2 o3 R))
    (O : Own c (pre ++ (V.ptA, V.pts) :: (V.woA, o1) :: (V.wtA, o2') :: (V.blA, o3') :: R') m h) (B' : BkD w c V.W ts' R') (K : Keep ((V.led o1 o2 o3 R).map (·.1)) sh h) (d2 : o2'.IsDictOf (PySem.intKind PR w) (stored k2 t (.ref a))) (d3 : o3'.IsDictOf (PySem.intKind PR w) (stored k3 t (.ref b)))
    (ha : (a, lsO ws n) ∈ pre) (hs : Six ws cf) (hb : (b, lsO vs n2) ∈ pre) (hi : IntsAre vs.toList l) :
    Keep V.mut sh h ∧ Wrl w V i (z + 1) ts' (fun j => if j = t then some cf else wt j) (fun j => if j = t then some l else bl j) h := by
  have r1 : ∀ p ∈ R', p ∈ pre ++ (V.ptA, V.pts) :: (V.woA, o1) :: (V.wtA, o2') :: (V.blA, o3') :: R' := fun p hp => List.mem_append_right _ (.tail _ (.tail _ (.tail _ (.tail _ hp))))
  have Bh := B'.at_ _ _ _ O r1
  have sk : ∀ b o, b ∉ (V.led o1 o2 o3 R).map (·.1) → sh.get? b = some o → h.get? b = some o := fun b o n e => O.F.keep _ _ (en.gs b o n e)
  have apart := (List.pairwise_append.mp O.nd).2.2
  have off : ∀ p ∈ pre, p.1 ∉ (V.led o1 o2 o3 R).map (·.1) := fun p hp q => by
    have ap := apart p hp
    rcases List.mem_cons.mp q with e | q
    · exact ap _ (.head _) e
    · rcases List.mem_cons.mp q with e | q
      · exact ap _ (.tail _ (.head _)) e
      · rcases List.mem_cons.mp q with e | q
        · exact ap _ (.tail _ (.tail _ (.head _))) e
        · rcases List.mem_cons.mp q with e | q
          · exact ap _ (.tail _ (.tail _ (.tail _ (.head _)))) e
          · obtain ⟨o, ho⟩ := B'.has p.1 (BL.adr ▸ q)
            exact ap _ (.tail _ (.tail _ (.tail _ (.tail _ ho)))) rfl
  have fresh : ∀ p ∈ pre, sh.get? p.1 = none := fun p hp => fresh_of en.gs O.N (List.mem_append_left _ hp) (off p hp)
  have v4 := @Vd.four V
  have inall : ∀ x ∈ (V.led o1 o2 o3 R).map (·.1), x ∈ V.all := List.forall_mem_cons.mpr ⟨v4.1, List.forall_mem_cons.mpr ⟨v4.2.1, List.forall_mem_cons.mpr ⟨v4.2.2.1, List.forall_mem_cons.mpr ⟨v4.2.2.2, fun x hx => Vd.bank_all _ (BL.adr ▸ hx)⟩⟩⟩⟩
  have sk' : SeqKeep V.all sh h := fun b o xs n hb _ e => sk b o (fun q => hb (inall _ q)) e
  have lo := vok.loFe BL (a := V.pts) (b := o1) (c := o2) (d := o3)
  have e1 := (O.N _ (List.mem_append_right pre (.head _))).1
  have e2 := (O.N _ (List.mem_append_right pre (.tail _ (.head _)))).1
  refine ⟨K.less (fun p hp => (ND p hp).1) (List.forall_mem_cons.mpr ⟨.inr e1, List.forall_mem_cons.mpr ⟨.inr e2, List.forall_mem_cons.mpr ⟨.inl Vd.wb_mut.1, List.forall_mem_cons.mpr ⟨.inl Vd.wb_mut.2, fun p hp => ?_⟩⟩⟩⟩),
    Bh, Fd.two fun b o q e => ?_, o1, o2', o3', _, _, ⟨e1, e2, (O.N _ (List.mem_append_right pre (.tail _ (.tail _ (.head _))))).1, (O.N _ (List.mem_append_right pre (.tail _ (.tail _ (.tail _ (.head _)))))).1, Z.d1, d2, d3,
      (Z.wtAt.keeps sk').set (notoff x Z.ex (fresh _ ha)) (O.N _ (List.mem_append_left _ ha)).1 hs, (Z.blAt.keeps sk').set (notoff x Z.ex (fresh _ hb)) (O.N _ (List.mem_append_left _ hb)).1 hi,
      Nat.le_trans (stored_length_le k2 t (.ref a)) (Nat.succ_le_succ Z.l2), Nat.le_trans (stored_length_le k3 t (.ref b)) (Nat.succ_le_succ Z.l3), Z.ex.keeps sk'⟩⟩
  · rcases BL.fix p hp with q | ⟨q, q'⟩ | ⟨q, q'⟩
    · exact .inl (Vd.core_mut _ q)
    · exact .inr (by rw [q, q']; exact Bh.dict)
    · exact .inr (by rw [q, q']; exact Bh.inst)
  · rcases q with rfl | rfl
    · exact sk _ _ (fun q => Nat.lt_asymm vok.a1 (lo _ q)) e
    · exact sk _ _ (fun q => Nat.lt_irrefl _ (lo _ q)) e
theorem J.methB {w : World} {c : Cx} {l D : Led} {m : Mp} {PM : Value × List Value → Led → Mp → Prop} {W : Wd} {ts : List Tm} {f : Addr} {name : Str} {pl : Sem Bool} (G : Gc w c) (B : BkD w c W ts D) (s : ∀ p ∈ D, p ∈ l) (hv : getL name (bankEs w W) = some none)
    (h3 : plainGet (heapK w.params) 656 name = true) (h4 : findIn (heapK w.params) (.ref 656) name = some (some (.ref f))) (h5 : isFn (heapK w.params) (.ref f) = true) (k : PM (.ref f, [.ref W.bA]) l m) : J w c l m (getMethod (.ref W.bA) name pl) PM := fun h tk O =>
  have b := B.at_ _ _ _ O s
  method_inst O.F G.X (⟨b.inst, rfl, rfl, b.dict⟩ : InstAt h W.bA (instObj 656 W.dA) 656 (some (dictOf (bankEs w W) 14))) h3 h4 h5 hv ⟨_, _, _, _, rfl, O, k⟩
theorem Vd.led_all (V : Vd) {w : World} {ts : List Tm} {h : Heap} {R : Led} (B : BkL w V.W ts h R) {o1 o2 o3 : Obj} {a : Addr} (n : a ∉ V.all) : a ∉ (V.led o1 o2 o3 R).map (·.1) := fun q => by
  have v4 := @Vd.four V
  refine n ?_
  rcases List.mem_cons.mp q with rfl | q
  · exact v4.1
  · rcases List.mem_cons.mp q with rfl | q
    · exact v4.2.1
    · rcases List.mem_cons.mp q with rfl | q
      · exact v4.2.2.1
      · rcases List.mem_cons.mp q with rfl | q
        · exact v4.2.2.2
        · exact Vd.bank_all _ (B.adr ▸ q)
theorem Vd.led_off (V : Vd) {w : World} {ts : List Tm} {h : Heap} {R : Led} (B : BkL w V.W ts h R) {o1 o2 o3 : Obj} {a : Addr} (n : a ∉ V.off) : a ∉ (V.led o1 o2 o3 R).map (·.1) := V.led_all B fun q => n (.tail _ q)
end Mine

open PySem PySem.W PySem.Calls PyProof.Rows
set_option Elab.async false
set_option linter.all false
set_option maxRecDepth 100000
set_option maxHeartbeats 40000000
namespace Mine
theorem Own.sub {c : Cx} {l l' : Led} {m : Mp} {h : Heap} (O : Own c l m h) (s : ∀ p ∈ l', p ∈ l) (n : Nd l') : Own c l' m h := ⟨O.F, fun p hp => O.N p (s p hp), n⟩
theorem J.perm {α : Type} {w : World} {c : Cx} {l l' : Led} {m : Mp} {t : Sem α} {P : α → Led → Mp → Prop} (e : l.Perm l') (k : J w c l' m t P) : J w c l m t P := fun h tk O =>
  k h tk ⟨O.F, fun p hp => O.N p (e.mem_iff.mpr hp), (e.pairwise_iff fun h => h.symm).mp O.nd⟩
theorem rot {α : Type} (X E R : List α) : (X ++ (E ++ R)).Perm (E ++ (X ++ R)) := List.perm_append_comm_assoc X E R
section
variable {w : World} {c : Cx} {l : Led} {m : Mp} {P : Value → Led → Mp → Prop} {PF : Flow → Led → Mp → Prop} {env : Env} {N : Nat}
theorem bindsT_run (he : EnvX c env) {Q : Unit → Shared → Prop} : ∀ (ts : List (Str × Pos)) (vs : List Value) (m : Mp) (h : Heap) (tk : Nat), (∀ q ∈ ts, env.kindOf q.1 = some .local) → Own c l m h → (∀ h' tk', Own c l (binds (ts.map (·.1)) vs m) h' → Q () (c.st h' tk')) →
    wpAny (model PR w) c.A (assignInOrder (ts.map fun q => PySem.assign (.Name q.1 q.2) env) vs) Q noE (c.st h tk)
  | [], _, m, h, tk, _, O, k => assignInOrder_nil (k h tk O)
  | _ :: _, [], m, h, tk, _, O, k => wpAny_pure (k h tk O)
  | q :: ts, v :: vs, m, h, tk, hx, O, k => assignInOrder_cons (assign_Name (store_run he (hx q (.head _)) O fun h' tk' O' => bindsT_run he ts vs _ h' tk' (fun y hy => hx y (.tail _ hy)) O' k))
inductive KTupN (c : Cx) (PF : Flow → Led → Mp → Prop) (ts : List (Str × Pos)) (v : Value) (l : Led) (m : Mp) : Prop
  | mk (D : Addr) (vs : List Value) (e : v = .ref D) (h : ∀ h, Own c l m h → IsTup h D vs.toArray) (hl : vs.length = ts.length) (p : PF .next l (binds (ts.map (·.1)) vs m)) : KTupN c PF ts v l m
theorem J.tupN {elts : List Expr} {k0 : Nat} {tpos pos : Pos} {value : Expr} (he : EnvX c env) (R : Rm c N) (ts : List (Str × Pos)) (k : J w c l m (eval value env) (KTupN c PF ts))
    (ha : autoParam ((assignEach elts env).map (·.2) = ts.map fun q => PySem.assign (.Name q.1 q.2) env) Mine.aT3._auto_1) (hst : autoParam ((assignEach elts env).findIdx? (·.1) = none) Mine.aT3._auto_1) (hx : autoParam ((ts.all fun q => decide (env.kindOf q.1 = some .local)) = true) Mine.aT3._auto_1) (hs : autoParam (swapsWithSole [.Tuple elts k0 tpos] value pos.line env = pure false) Mine.aT3._auto_1) (hw : autoParam (swappedStores [.Tuple elts k0 tpos] value env = pure none) Mine.aT3._auto_1) :
    J w c l m (exec (.Assign [.Tuple elts k0 tpos] value pos) env) PF := fun h tk O => by
  obtain ⟨_, _, _, _, eA, _⟩ := R
  refine Assign_Tuple (k.run O ?_) hs hw
  rintro v l m h tk O ⟨D, vs, rfl, hD, hl, p⟩
  refine unpackN_ O.F O.N (hD h O) (by rw [eA]) ?_ hst fun h' F' N' => ?_
  · have := congrArg List.length ha
    rw [List.length_map, List.length_map] at this
    rw [this, ← hl]; simp
  · rw [ha]
    exact bindsT_run he ts _ _ h' _ (fun q hq => of_decide_eq_true (List.all_eq_true.mp hx q hq)) ⟨F', N', O.nd⟩ fun h'' tk'' O'' => ⟨_, _, _, _, rfl, O'', p⟩
theorem Gc.nolimit (G : Gc w c) : c.g.NoLimit := let ⟨_, _, _, T⟩ := G.T; T.nolimit
theorem J.dict0 {pos : Pos} (G : Gc w c) (k : ∀ d o, (d == sysModules) = false → o.IsDictOf (PySem.intKind PR w) [] → o.IsDictOf (PySem.strKind PR w) [] → P (.ref d) ((d, o) :: l) m) : J w c l m (eval (.Dict [] [] pos) env) P := fun h tk O =>
  newDict_K O.F O.N G.nolimit fun d h' o F' N' lt lo hs _ hi _ => ⟨_, _, _, _, rfl, ⟨F', N', O.nd.cons lt⟩, k d o lo hi hs⟩
theorem J.dict0H {pos : Pos} {a : Nat} {q : Obj} (G : Gc w c) (k : ∀ (d : Nat) o, a < d → (d == sysModules) = false → o.IsDictOf (PySem.intKind PR w) [] → o.IsDictOf (PySem.strKind PR w) [] → P (.ref d) ((d, o) :: (a, q) :: l) m) : J w c ((a, q) :: l) m (eval (.Dict [] [] pos) env) P := fun h tk O =>
  newDict_K O.F O.N G.nolimit fun d h' o F' N' lt lo hs _ hi _ => ⟨_, _, _, _, rfl, ⟨F', N', O.nd.cons lt⟩, k d o (lt _ (.head _)) lo hi hs⟩
inductive KDict1 (w : World) (P : Value → Led → Mp → Prop) (d : Addr) (o : Obj) (kv vv : Value) (l2 : Led) (m2 : Mp) : Prop
  | mk (key : Int) (t : Tok) (gg : Obj → Led) (e : kv = .int key t) (u : UpF d o l2 gg) (q : ∀ o', o'.IsDictOf (PySem.intKind PR w) [(key, vv)] → P (.ref d) (gg o') m2) : KDict1 w P d o kv vv l2 m2
theorem J.dict1 {pos : Pos} {ke ve : Expr} (G : Gc w c) (k : ∀ d o, (d == sysModules) = false → J w c ((d, o) :: l) m (eval ke env) (fun kv l1 m1 => J w c l1 m1 (eval ve env) (KDict1 w P d o kv))) :
    J w c l m (eval (.Dict [some ke] [ve] pos) env) P := fun h tk O =>
  kdn_eval (knd := PySem.intKind PR w) O.F O.N G.nolimit rfl rfl (List.cons_ne_nil _ _) (Nat.le_of_ble_eq_true rfl) fun d h' o F' N' lt lo hi => pairTrees_cons_walk ((k d o lo).run ⟨F', N', O.nd.cons lt⟩ fun kv l1 m1 h1 tk1 O1 p => p.run O1 fun vv l2 m2 h2 tk2 O2 ⟨key, t, gg, e, u, q⟩ => pairTrees_nil_walk (by
    subst e
    exact kdn_made_int O2.F O2.N (u.upd O2.nd) hi rfl (by simp [intKeyPairs]) fun h3 o' F3 N3 hd => ⟨_, _, _, _, rfl, ⟨F3, N3, (u.up o').nd O2.nd⟩, q o' hd⟩))
theorem J.maxD {d : Addr} {o : Obj} {kvs : List (Int × Value)} {u : Int} (R : Rm c N) (i : Nat) (h1 : nth l i = some (d, o)) (hd : o.IsDictOf (PySem.intKind PR w) kvs) (lo : (d == sysModules) = false) (hu : IsMaxKey kvs u) (k : ∀ t, P (.int u t) l m) : J w c l m (PySem.call (.builtin "max") [.ref d]) P := fun h tk O => by
  obtain ⟨_, _, _, _, eA, _⟩ := R
  exact max_dictN (by rw [eA]) O.F O.N (nth_mem h1) hd lo hu fun h' t tk F' N' => ⟨_, _, _, _, rfl, ⟨F', N', O.nd⟩, k t⟩
section
variable {K : Type} [DecidableEq K] {knd : KeyKind PR w K} {kvs : List (K × Value)} {k : K} {key v : Value} {d : Addr} {o : Obj} {gg : Obj → Led}
theorem J.lenD (knd : KeyKind PR w K) (i : Nat) (h1 : nth l i = some (d, o)) (hd : o.IsDictOf knd kvs) (lo : (d == sysModules) = false) (hz : kvs.length ≤ 16777216) (h : ∀ t, P (.int kvs.length t) l m) : J w c l m (PySem.call (.builtin "len") [.ref d]) P := fun _ _ O =>
  kda_len O.N (nth_mem h1) hd lo hz ⟨_, _, _, _, rfl, O, h _⟩
theorem J.popmeth {PM : Value × List Value → Led → Mp → Prop} {pl : Sem Bool} (knd : KeyKind PR w K) (i : Nat) (h1 : nth l i = some (d, o)) (hd : o.IsDictOf knd kvs) (h : PM (.builtin "dict.pop", [.ref d]) l m) : J w c l m (getMethod (.ref d) (Str.ofString "pop") pl) PM := fun h0 tk O =>
  have hD := kda_dict (s := c.st h0 tk) O.N (nth_mem h1) hd
  getMethod_builtin hD.typeIs PySem.F.plainAttrs_dict PySem.F.slot_dict_pop PySem.F.type_dict_pop hD.mapOf.noDict ⟨_, _, _, _, rfl, O, h⟩
theorem J.popD (knd : KeyKind PR w K) (u : UpF d o l gg) (hd : o.IsDictOf knd kvs) (hk : knd.is k key = true) (hp : (keyPart key).isSome = true) (hl : valueAt kvs k = some v) (hz : kvs.length ≤ 16777216) (h : ∀ o', o'.IsDictOf knd (without kvs k) → P v (gg o') m) : J w c l m (PySem.call (.builtin "dict.pop") [.ref d, key]) P := fun _ _ O =>
  kob_pop (more := []) O.F O.N (u.upd O.nd) hd hk (.inl rfl) hp (PySem.F.args_dict_pop_2 _ _) hl (by rw [sizeLine_eq]; exact hz) fun h' o' F' N' hd' => ⟨_, _, _, _, rfl, ⟨F', N', (u.up o').nd O.nd⟩, h o' hd'⟩
end
theorem J.itemTT {D : Addr} {vs : List Value} {k : Int} {tk : Tok} {j : Nat} {v : Value} {value slice : Expr} (hD : IsTup c.g D vs.toArray) (h0 : -2 ^ 63 ≤ k) (h1 : k < 2 ^ 63) (hj : seqIndex? k vs.length = some j) (hx : vs[j]? = some v) (h : P v l m)
    (hs : autoParam (subscripted slice false (.ref D) (.int k tk) = operate [.ref D, .int k tk] (getItem (.ref D) (.int k tk))) Mine.aT3._auto_1) : J w c l m (subscriptTail value slice (.ref D) (.int k tk)) P := fun _ _ O =>
  item_tupleT (hD.keeps O.F.keep) h0 h1 hj hx ⟨_, _, _, _, rfl, O, h⟩ hs
inductive KForT (w : World) (c : Cx) (PF : Flow → Led → Mp → Prop) (env : Env) (x : Str) (body : List Stmt) (Inv : Nat → Led → Mp → Prop) (xv : Value) (l : Led) (m : Mp) : Prop
  | mk (D : Addr) (items : Array Value) (e : xv = .ref D) (hD : IsTup c.g D items) (h0 : Inv 0 l m) (turn : ∀ i v l1 m1 own, items[i]? = some v → Inv i l1 m1 → OwnOff own (l1.map (·.1)) → J w c (l1 ++ own) ((x, v) :: m1) (execs body env) (TurnE own (Inv (i + 1))))
      (done : ∀ l1 m1, Inv items.size l1 m1 → PF .next l1 m1) : KForT w c PF env x body Inv xv l m
theorem J.forT {x : Str} {px pos : Pos} {iter : Expr} {body : List Stmt} (he : EnvX c env) (R : Rm c N) (Inv : Nat → Led → Mp → Prop) (k : J w c l m (eval iter env) (KForT w c PF env x body Inv))
    (hx : autoParam (env.kindOf x = some .local) Mine.aT3._auto_1) (hs : autoParam (∀ x, foldedSetIterable iter env x = pure x) Mine.aT9._auto_1) : J w c l m (exec (.For (.Name x px) iter body [] pos) env) PF := fun h tk O => by
  obtain ⟨cn, cs, a, ccd, cl, rfl, hk⟩ := he
  obtain ⟨dp, un, fr, gd, eA, _⟩ := R
  refine For_invV c.g hx (by show (cs.kind == .class || (cs.kind == .module && _)) = false; rw [hk]; rfl) (k.run O ?_) hs (by passes_own)
  rintro xv l m h tk O ⟨D, items, rfl, hD, h0, turn, done⟩
  exact tupleJ (by rw [eA]) hD O.F O.N (fun i mf l1 => ∃ m1, mf = lk m1 ∧ Nd l1 ∧ Inv i l1 m1) ⟨m, rfl, O.nd, h0⟩
    (fun i v m₁ news₁ h tk own _ hv ⟨m1, e, nd, inv⟩ off F N => by subst e; exact turn_of nd off F N fun own off => turn i v news₁ m1 own hv inv off)
    fun m₁ news₁ h tk ⟨m1, e, nd, inv⟩ F N => by subst e; exact ⟨_, _, _, _, rfl, ⟨F, N, nd⟩, done _ _ inv⟩
end
end Mine

open PySem PySem.W PySem.Calls PyProof.Rows
set_option Elab.async false
set_option linter.all false
set_option maxRecDepth 100000
set_option maxHeartbeats 40000000
namespace Mine
section
variable {w : World} {mean : ExcName → Option Value} {mg mb : Str → Option Value} {A : Around} {s : Shared} {Q : Result → Shared → Prop}
  {name qual : Str} {params : Arguments} {body : List Stmt} {scope : Scope} {dV kV doc pm cdv ct oc : Value} {an od : Option Addr} {osl : Array (Option Value)} {f : Addr}
  {hb : Heap}
theorem code_P {pos : List Value} {kw : List (Str × Value)} (D : List (Addr × Obj)) (binds : List (Str × Value)) (R : A.depth < recursionLimit) (G : Gd w mean mg mb hb) (kp : ∀ b o, hb.get? b = some o → s.heap.get? b = some o)
    (N : ∀ p ∈ D, s.heap.get? p.1 = some p.2 ∧ hb.get? p.1 = none)
    (h : ∀ g L' h₁, (∀ h' L'' m, Fr g L'' h' m → Keep (D.map (·.1)) s.heap h') → (∀ b o, b ∉ D.map (·.1) → s.heap.get? b = some o → g.get? b = some o) → (∀ b o, hb.get? b = some o → g.get? b = some o) →
      Fr g L' h₁ (fun y => binds.reverse.lookup y) → News g L' h₁ D → (heapK w.params).In g → Top viewK LO mean mg mb g → (∀ p ∈ D, p.1 < L') →
      wpAny (model PySem.Challenge.rw_sj0101_01.row.prog w) (A.deeper (envOf qual scope L' f cdv)) (execs body (envOf qual scope L' f cdv)) (fun fl s' => Q (.ok (.ret (match fl with | .ret v => v | _ => .none))) s') (fun _ _ => False)
        { s with heap := h₁, toks := s.toks + binds.length })
    (ho : autoParam ((heapK w.params).lookup f = some ⟨oc, od, .func (fnOf name qual params body scope dV kV doc pm an cdv ct), osl⟩) Mine.aT0._auto_1) (hcd : autoParam (codeIn (heapK w.params) cdv qual = true) Mine.aT0._auto_1)
    (hbind : BindsTo s (fnOf name qual params body scope dV kV doc pm an cdv ct) ⟨pos, kw⟩ binds := by exact BindsTo.of_eq rfl) (hloc : ∀ y ∈ binds, scope.names.lookup y.1 = some .local := by exact locs rfl)
    (hco : autoParam (scope.isCoroutine = false) Mine.aT1._auto_1) (hgen : autoParam (scope.isGenerator = false) Mine.aT1._auto_1) (hk : autoParam (scope.kind = .function) Mine.aT1._auto_1)
    (hcell : autoParam (∀ x ∈ scope.names, x.2 ≠ .cell) Mine.aT2._auto_1) : codeAny (model PySem.Challenge.rw_sj0101_01.row.prog w) A (.call (.ref f) ⟨pos, kw⟩) Q s := by
  have nm : ∀ b o, hb.get? b = some o → b ∉ D.map (·.1) := fun b o e q => by
    obtain ⟨p, hp, rfl⟩ := List.mem_map.mp q
    rw [(N p hp).2] at e; cases e
  have st : ∀ b o, hb.get? b = some o → (hideAll s.heap (D.map (·.1))).get? b = some o := fun b o e => hideAll_get _ (kp b o e) (nm b o e)
  have G' := G.keeps st
  have Gs := G.keeps kp
  refine codeAny_call_def (fd := fnOf name qual params body scope dV kV doc pm an cdv ct) (body := body) (binds := binds) R (Gs.X _ _ ho) rfl Gs.T.nolimit (codeRec_of Gs.X hcd) rfl hbind hcell hloc (fun h₁ hns hk₁ => ?_) hco hgen hk
  refine wpAny_mono (h (hideAll s.heap (D.map (·.1))) s.heap.objs.size h₁ (fun h' L'' m F => hide_keep F) (fun b o n e => hideAll_get _ e n) st
    ⟨hns, fun b o e => hk₁ b o (of_hideAll _ e), Nat.le_of_eq (hideAll_size _ _)⟩
    (fun p hp => ⟨hk₁ _ _ (N p hp).1, Nat.ne_of_lt (Heap.lt_size (N p hp).1), hideAll_none _ (List.mem_map_of_mem hp)⟩) G'.X G'.T (fun p hp => Heap.lt_size (N p hp).1)) (fun fl s' hl => hl) fun _ _ y => y.elim
end
theorem empty_dict {w : World} {o : Obj} (h : o.IsDictOf (PySem.intKind PR w) []) : ∃ ep, o = dictOf [] ep := by
  obtain ⟨es, ep, ⟨h1, h2, h3⟩, h4, _, h5, _⟩ := h
  have : es = #[] := by
    have := h5.length
    simp at this
    exact this
  subst this
  refine ⟨ep, ?_⟩
  cases o
  simp only at h1 h2 h3 h4
  subst h1; subst h2; subst h3; subst h4
  rfl
noncomputable abbrev tm0 : Tm := ⟨Str.ofString "", [], 0, .i 0⟩
noncomputable abbrev tm1 : Tm := ⟨(Str.ofString "true"), [], 0, .i 0⟩
noncomputable abbrev tm2 : Tm := ⟨(Str.ofString "false"), [], 0, .i 0⟩
theorem core0 {w : World} {W : Wd} {h : Heap} {a : Addr} {o : Obj} {n1 n2 n3 n4 : Nat} {t1 t2 t3 : Tok} (e1 : h.get? W.oA = some (lsO #[.str (Str.ofString "") t1] n1)) (e2 : h.get? W.aA = some (lsO #[.ref a] n2)) (e3 : h.get? W.soA = some (lsO #[.int 0 t2] n3)) (e4 : h.get? W.daA = some (lsO #[.int 0 t3] n4)) (e5 : h.get? W.nA = some o) (d : o.IsDictOf (PySem.intKind PR w) []) (ea : h.get? a = some (tupO [])) : Core w W [tm0] h := by
  obtain ⟨ep, rfl⟩ := empty_dict d
  refine ⟨_, _, _, _, _, _, _, _, [], ep, [], ⟨e1, e2, e3, e4, e5, rfl, fun _ h => (nomatch h), by simp, rfl, rfl, rfl, rfl, fun i t ht => ?_, rfl, fun i x hx => (by simp at hx)⟩⟩
  have hi : i = 0 := by
    have := (List.getElem?_eq_some_iff.mp ht).1
    simp at this; exact this
  subst hi
  cases ht
  exact ⟨_, _, _, _, rfl, rfl, rfl, rfl, ⟨⟨_, rfl⟩, ⟨_, rfl, items_int ea .nil⟩, ⟨_, rfl⟩, ⟨_, rfl⟩⟩⟩
theorem mk_new {ts ts' : List Tm} {t : Tm} {k : Nat} (M : Mk ts t ts' k) (h : ∀ i, 1 ≤ i → ts[i]? ≠ some t) : ts' = ts ++ [t] ∧ k = ts.length := by
  rcases M with ⟨rfl, h1, e⟩ | ⟨_, h1, h2⟩
  · exact absurd e (h k h1)
  · exact ⟨h1, h2⟩
section
variable {w : World} {mean : ExcName → Option Value} {mg mb : Str → Option Value} {dp un : Nat} {fr : Option (List Env)} {gd : Option (List Code)} {s : Shared} {E : Value → Shared → Prop} {Q : Value → Shared → Prop} {hb : Heap}
theorem make_init (G : Gd w mean mg mb hb) (kp : ∀ b o, hb.get? b = some o → s.heap.get? b = some o) (R : Room dp un 3) (W : Wd) (wok : W.Ok) {es : List DictEntry} {ne : Nat} {ts : List Tm} (hB : s.heap.get? W.bA = some (instObj 656 W.dA)) (hD : s.heap.get? W.dA = some (dictOf es ne)) (C : Core w W ts s.heap) (hhi : ∀ a ∈ W.bank, hb.get? a = none)
    (g1 : getL (Str.ofString "numbers") es = some (some (.ref W.nA))) (g2 : getL (Str.ofString "term_ops") es = some (some (.ref W.oA))) (g3 : getL (Str.ofString "term_args") es = some (some (.ref W.aA)))
    (g4 : getL (Str.ofString "term_sorts") es = some (some (.ref W.soA))) (g5 : getL (Str.ofString "term_datas") es = some (some (.ref W.daA)))
    (op : Str) (hop : op ≠ Str.ofString "num") (t1 t2 t3 : Tok) (aT : Addr) (Ag : s.heap.get? aT = some (tupO [])) (hz : ts.length ≤ 900) (hn : ∀ t ∈ ts, t.op ≠ op)
    (hret : ∀ tk h' tk', Keep W.core s.heap h' → Core w W (ts ++ [⟨op, [], 0, .i 0⟩]) h' → Q (.int (ts.length : Int) tk) { s with heap := h', toks := tk' }) :
    wpAny (model PySem.Challenge.rw_sj0101_01.row.prog w) (AR dp un fr gd) (call (.ref 270) [.ref W.bA, .str op t1, .ref aT, .int 0 t2, .int 0 t3]) Q E s :=
  make_fn G kp R W wok hB hD C hhi g1 g2 g3 g4 g5 ⟨op, [], 0, .i 0⟩ (wf_i hop) t1 t2 aT _ (items_int Ag .nil) ⟨_, rfl⟩ hz fun k tk h' tk' ts' M K C' => by
    obtain ⟨e1, e2⟩ := mk_new M fun i _ e => hn _ (List.mem_of_getElem? e) rfl
    subst e1; subst e2
    exact hret tk h' tk' K C'
end
theorem core_re {w : World} {dA bA snA swA fnA faA frA oA aA soA daA nA b0 b1 : Nat} {t0 t1 : Nat → Tok} {ts : List Tm} {h : Heap} (C : Core w ⟨dA, bA, snA, swA, fnA, faA, frA, oA, aA, soA, daA, nA, b0, t0⟩ ts h) : Core w ⟨dA, bA, snA, swA, fnA, faA, frA, oA, aA, soA, daA, nA, b1, t1⟩ ts h := by
  obtain ⟨os, as, ss, ds, n1, n2, n3, n4, es, ep, xs, C⟩ := C
  exact ⟨os, as, ss, ds, n1, n2, n3, n4, es, ep, xs, C.ops, C.args, C.sorts, C.datas, C.nums, C.ents, C.keys, C.nd, C.s1, C.s2, C.s3, C.s4, C.at_, C.len, C.nums'⟩
noncomputable def tkOf (t0 t1 t2 t3 t4 t5 t6 t7 t8 t9 t10 t11 t12 t13 t14 t15 t16 : Tok) : Nat → Tok
  | 0 => t0
  | 1 => t1
  | 2 => t2
  | 3 => t3
  | 4 => t4
  | 5 => t5
  | 6 => t6
  | 7 => t7
  | 8 => t8
  | 9 => t9
  | 10 => t10
  | 11 => t11
  | 12 => t12
  | 13 => t13
  | 14 => t14
  | 15 => t15
  | _ => t16
section
variable {w : World} {mean : ExcName → Option Value} {mg mb : Str → Option Value} {dp un : Nat} {fr : Option (List Env)} {gd : Option (List Code)} {s : Shared} {Q : Result → Shared → Prop}
  {name qual : Str} {params : Arguments} {body : List Stmt} {scope : Scope} {dV kV doc pm cdv ct oc : Value} {an od : Option Addr} {osl : Array (Option Value)} {f : Addr} {hb : Heap} {n : Nat}
theorem code_J {pos : List Value} (D : Led) (binds : List (Str × Value)) (R : Room dp un (n + 1)) (G : Gd w mean mg mb hb) (kp : ∀ b o, hb.get? b = some o → s.heap.get? b = some o) (hD : ∀ p ∈ D, s.heap.get? p.1 = some p.2 ∧ hb.get? p.1 = none) (nd : Nd D)
    (h : ∀ c : Cx, Gc w c → Rm c n → EnvX c (envOf qual scope c.L f cdv) → Ent c s.heap hb D →
      J w c D binds.reverse (execs body (envOf qual scope c.L f cdv)) (fun fl l m => ∀ h tk, Own c l m h → Keep (D.map (·.1)) s.heap h → Q (.ok (.ret (retOf fl))) { s with heap := h, toks := tk }))
    (ho : autoParam ((heapK w.params).lookup f = some ⟨oc, od, .func (fnOf name qual params body scope dV kV doc pm an cdv ct), osl⟩) Mine.aT0._auto_1) (hcd : autoParam (codeIn (heapK w.params) cdv qual = true) Mine.aT0._auto_1)
    (hbind : BindsTo s (fnOf name qual params body scope dV kV doc pm an cdv ct) ⟨pos, []⟩ binds := by exact BindsTo.of_eq rfl) (hloc : ∀ y ∈ binds, scope.names.lookup y.1 = some .local := by exact locs rfl)
    (hco : autoParam (scope.isCoroutine = false) Mine.aT1._auto_1) (hgen : autoParam (scope.isGenerator = false) Mine.aT1._auto_1) (hk : autoParam (scope.kind = .function) Mine.aT1._auto_1)
    (hcell : autoParam (∀ x ∈ scope.names, x.2 ≠ .cell) Mine.aT2._auto_1) : codeAny (model PR w) (AR dp un fr gd) (.call (.ref f) ⟨pos, []⟩) Q s := by
  have rdp := R.dp
  have run := R.un
  refine code_P D binds (by show dp < _; lia) G kp hD ?_ ho hcd hbind hloc hco hgen hk hcell
  intro g L' h₁ hkp gs gb F N X T ll
  refine J.start (c := ⟨(AR dp un fr gd).deeper (envOf qual scope L' f cdv), g, L', s.gens, s.drawn, s.os⟩) ⟨F, N, nd⟩ ?_
  refine (h ⟨(AR dp un fr gd).deeper (envOf qual scope L' f cdv), g, L', s.gens, s.drawn, s.os⟩ ⟨X, _, _, _, T⟩ ⟨dp + 1, un + 3, fr.map (envOf qual scope L' f cdv :: ·), gd, rfl, ⟨by lia, by lia⟩⟩ ⟨_, _, _, _, _, rfl, hk⟩ ⟨gs, gb, ll⟩).mono ?_
  intro fl l m k h tk O
  have := k h tk O (hkp _ _ _ O.F)
  cases fl <;> exact this
end
section
variable {w : World} {c : Cx} {l D X : Led} {m : Mp} {P : Value → Led → Mp → Prop} {PU : Unit → Led → Mp → Prop} {N : Nat} {W : Wd} {ts : List Tm}
theorem J.setA {x C d : Addr} {es : List DictEntry} {n : Nat} {name : Str} {v : Value} {gg : Obj → Led} {es' : Tok → List DictEntry} {n' : Nat} (i : Nat) (G : Gc w c) (h1 : nth l i = some (x, instObj C d)) (u : UpF d (dictOf es n) l gg)
    (hs : findIn (heapK w.params) (.ref C) "__setattr__" = some (some (.builtin "object.__setattr__"))) (hp : plainOver (heapK w.params) C = true) (ht : takerIn (heapK w.params) C name = some none) (hh : hasDictIn (heapK w.params) C = true) (hl : (getL name es).isSome = true)
    (he : ∀ tk, (putL name (PyData.keyHash w.params name) (.str name tk) v es, putN name es n) = (es' tk, n')) (hz : ∀ tk, (es' tk).length ≤ 1000) (k : ∀ tk, PU () (gg (dictOf (es' tk) n')) m) : J w c l m (setAttr (.ref x) name v) PU := fun h tk O =>
  set_dict O.F G.X O.N (InstAt.of_news O.N (nth_mem h1) u.mem) rfl hs hp ht hh hl (he (tk + 1)) ((u.up (dictOf (es' (tk + 1)) n')).upd O.nd) (hz _) fun h' F' N' => ⟨_, tk + 2, _, _, rfl, ⟨F', N', (u.up _).nd O.nd⟩, k _⟩
structure CrD (w : World) (c : Cx) (W : Wd) (ts : List Tm) (D : Led) : Prop where
  at_ : ∀ h l m, Own c l m h → (∀ p ∈ D, p ∈ l) → Core w W ts h
  has : ∀ a ∈ W.core, ∃ o, (a, o) ∈ D
theorem J.make0 {es : List DictEntry} {ne : Nat} {op : Str} {aT : Addr} {t1 t2 t3 : Tok} (G : Gc w c) (R : Rm c N) (wok : W.Ok) (C : CrD w c W ts D) (kt : Kt D l X) (mI : (W.bA, instObj 656 W.dA) ∈ l) (mD : (W.dA, dictOf es ne) ∈ l) (mT : (aT, tupO []) ∈ l)
    (g1 : getL (Str.ofString "numbers") es = some (some (.ref W.nA))) (g2 : getL (Str.ofString "term_ops") es = some (some (.ref W.oA))) (g3 : getL (Str.ofString "term_args") es = some (some (.ref W.aA))) (g4 : getL (Str.ofString "term_sorts") es = some (some (.ref W.soA))) (g5 : getL (Str.ofString "term_datas") es = some (some (.ref W.daA)))
    (hop : op ≠ Str.ofString "num") (hz : ts.length ≤ 900) (hn : ∀ t ∈ ts, t.op ≠ op)
    (k : ∀ tk R, CrD w c W (ts ++ [⟨op, [], 0, .i 0⟩]) R → P (.int (ts.length : Int) tk) (X ++ R) m) (hN : autoParam (3 ≤ N) Mine.aT2._auto_1) : J w c l m (PySem.call (.ref 270) [.ref W.bA, .str op t1, .ref aT, .int 0 t2, .int 0 t3]) P := by
  have s2 := kt.sub.2.1
  have hi : ∀ h, Own c l m h → ∀ a ∈ W.bank, c.g.get? a = none := fun h O =>
    List.forall_mem_cons.mpr ⟨(O.N _ mD).2.2, List.forall_mem_cons.mpr ⟨(O.N _ mI).2.2, fun a ha => let ⟨o, ho⟩ := C.has a ha; (O.N _ (s2 _ ho)).2.2⟩⟩
  refine J.bnd (Res := fun v h' => ∃ tk, v = .int (ts.length : Int) tk ∧ Core w W (ts ++ [⟨op, [], 0, .i 0⟩]) h') 3 G R hN W.core C.has kt (fun g r h tk Q O ret =>
    make_init g O.F.keep r W wok (O.N _ mI).1 (O.N _ mD).1 (C.at_ _ _ _ O s2) (hi h O) g1 g2 g3 g4 g5 op hop t1 t2 t3 aT (O.N _ mT).1 hz hn fun tk h' tk' K C' => ret _ _ _ K ⟨tk, rfl, C'⟩) ?_
  rintro v h0 h' R O K ⟨tk, rfl, C'⟩ bd O'
  refine k tk R (C'.cases fun os as ss ds n1 n2 n3 n4 es ep xs C1 => ?_)
  have inR : ∀ a ∈ W.core, ∀ o, h'.get? a = some o → (a, o) ∈ R := fun a ha o e => let ⟨_, hm⟩ := C.has a ha; bd.old kt O hm e
  have mc := @Wd.memC W
  refine ⟨fun h2 l2 m2 O2 s => ?_, List.forall_mem_cons.mpr ⟨⟨_, inR _ mc.1 _ C1.ops⟩, List.forall_mem_cons.mpr ⟨⟨_, inR _ mc.2.1 _ C1.args⟩, List.forall_mem_cons.mpr ⟨⟨_, inR _ mc.2.2.1 _ C1.sorts⟩, List.forall_mem_cons.mpr ⟨⟨_, inR _ mc.2.2.2.1 _ C1.datas⟩, List.forall_mem_cons.mpr ⟨⟨_, inR _ mc.2.2.2.2 _ C1.nums⟩, List.forall_mem_nil _⟩⟩⟩⟩⟩⟩
  have to : ∀ a ∈ W.core, ∀ o, h'.get? a = some o → h2.get? a = some o := fun a ha o e => (O2.N _ (s _ (inR a ha o e))).1
  exact ⟨_, _, _, _, _, _, _, _, _, _, _, C1.tup (bd.tup O2.F O2.N s) (to _ mc.1 _ C1.ops) (to _ mc.2.1 _ C1.args) (to _ mc.2.2.1 _ C1.sorts) (to _ mc.2.2.2.1 _ C1.datas) (to _ mc.2.2.2.2 _ C1.nums)⟩
end
section
variable {w : World} {mean : ExcName → Option Value} {mg mb : Str → Option Value} {dp un : Nat} {fr : Option (List Env)} {gd : Option (List Code)} {s : Shared} {E : Value → Shared → Prop} {Q : Value → Shared → Prop} {hb : Heap}
theorem in3 {L : Led} {x y z : Nat} {ox oy oz : Obj} (h1 : (x, ox) ∈ L) (h2 : (y, oy) ∈ L) (h3 : (z, oz) ∈ L) : ∀ a ∈ [x, y, z], ∃ o, (a, o) ∈ L :=
  List.forall_mem_cons.mpr ⟨⟨_, h1⟩, List.forall_mem_cons.mpr ⟨⟨_, h2⟩, List.forall_mem_cons.mpr ⟨⟨_, h3⟩, List.forall_mem_nil _⟩⟩⟩
theorem bank_init {Q : Result → Shared → Prop} (G : Gd w mean mg mb hb) (kp : ∀ b o, hb.get? b = some o → s.heap.get? b = some o) (R : Room dp un 10) (bA dA : Nat) (hlt : dA < bA) (hlo : 100 < dA) (hB : s.heap.get? bA = some (instObj 656 dA)) (hD : s.heap.get? dA = some (dictOf [] 0)) (hB' : hb.get? bA = none) (hD' : hb.get? dA = none)
    (hret : ∀ W h' tk', W.Ok → W.dA = dA → W.bA = bA → h'.get? dA = some (dictOf ((bankEs w W).take 13) 13) → Core w W [tm0, tm1, tm2] h' → h'.get? W.fnA = some (lsO #[] 0) → h'.get? W.faA = some (lsO #[] 0) → h'.get? W.frA = some (lsO #[] 0) →
      (∀ a : Nat, bA < a → a ∈ W.core ++ [W.fnA, W.faA, W.frA] → s.heap.get? a = none) → Keep [dA] s.heap h' → Q (.ok (.ret .none)) { s with heap := h', toks := tk' }) :
    codeAny (model PySem.Challenge.rw_sj0101_01.row.prog w) (AR dp un fr gd) (.call (.ref 137) ⟨[.ref bA], []⟩) Q s := by
  have X₀ := G.X
  revert X₀
  k_fill
  intro X₀
  clear X₀
  have ND : ∀ p ∈ [(bA, instObj 656 dA), (dA, dictOf [] 0)], s.heap.get? p.1 = some p.2 ∧ hb.get? p.1 = none := List.forall_mem_cons.mpr ⟨⟨hB, hB'⟩, List.forall_mem_cons.mpr ⟨⟨hD, hD'⟩, List.forall_mem_nil _⟩⟩
  refine code_J (n := 9) [(bA, instObj 656 dA), (dA, dictOf [] 0)] [((Str.ofString "self"), .ref bA)] R G kp ND (List.pairwise_cons.mpr ⟨List.forall_mem_cons.mpr ⟨(Nat.ne_of_lt hlt).symm, List.forall_mem_nil _⟩, List.pairwise_singleton _ _⟩) ?_
  intro c G R he en
  dsimp only [List.reverse, List.reverseAux]
  k_with "ini_MInit" => ((with_reducible refine (?_ : J _ _ _ _ (setAttr _ _ _) _)); refine J.setA _ (by assumption) (by k_extra "nth") (by k_extra "upf") (by k_is) (by k_is) (by k_is) (by k_is) (by k_get) (by intro t_l; k_put) (fun _ => Nat.le_of_ble_eq_true rfl) ?_; intro t_l)
  k_with "ini_MInit" => ((with_reducible refine J.dict0H ?_ ?_); (focus assumption); intro d9 o9 h_l lo9 hi9 hs9)
  k_with "ini_MInit" => (first | ((with_reducible refine NewT.mkH ?_ ?_); (focus (exact Nat.le_of_ble_eq_true rfl)); intro d_l h_l) | ((with_reducible refine NewL.mkH ?_ ?_); (focus (exact Nat.le_of_ble_eq_true rfl)); intro d_l h_l))
  repeat' (first | k_extra "ini_MInit" | k_extra "j")
  rename_i _ _ _ snA q2 _ _ _ _ swA q3 _ fnA q4 _ faA q5 _ frA q6 _ _ _ _ oA q7 _ D1 q0 aA q8 _ soA q9 _ _ daA q10 _ q11 _ _
  have wok : Wd.Ok ⟨dA, bA, snA, swA, fnA, faA, frA, oA, aA, soA, daA, d9, 0, fun _ => 0⟩ := ⟨hlo, hlt, q2, q3, q4, q5, q6, q7, Nat.lt_trans q0 q8, q9, q10, q11⟩
  refine J.perm (List.Perm.cons _ (List.perm_append_comm (l₁ := [_, _, _, _, _, _]))) ?_
  dsimp only [List.cons_append, List.nil_append]
  refine J.make0 (W := ⟨dA, bA, snA, swA, fnA, faA, frA, oA, aA, soA, daA, d9, 0, fun _ => 0⟩) (ts := [tm0]) (D := [(d9, _), (daA, _), (soA, _), (aA, _), (D1, _), (oA, _)]) G R wok ⟨fun h l m O s => core0 (O.N _ (s _ (.tail _ (.tail _ (.tail _ (.tail _ (.tail _ (.head _)))))))).1 (O.N _ (s _ (.tail _ (.tail _ (.tail _ (.head _)))))).1 (O.N _ (s _ (.tail _ (.tail _ (.head _))))).1 (O.N _ (s _ (.tail _ (.head _)))).1 (O.N _ (s _ (.head _))).1 hi9 (O.N _ (s _ (.tail _ (.tail _ (.tail _ (.tail _ (.head _))))))).1,
    List.forall_mem_cons.mpr ⟨⟨_, .tail _ (.tail _ (.tail _ (.tail _ (.tail _ (.head _)))))⟩, List.forall_mem_cons.mpr ⟨⟨_, .tail _ (.tail _ (.tail _ (.head _)))⟩, List.forall_mem_cons.mpr ⟨⟨_, .tail _ (.tail _ (.head _))⟩, List.forall_mem_cons.mpr ⟨⟨_, .tail _ (.head _)⟩, List.forall_mem_cons.mpr ⟨⟨_, .head _⟩, List.forall_mem_nil _⟩⟩⟩⟩⟩⟩
    (.drop (.keep .ls (.keep .ls (.keep .ls (.keep .ls (.keep .ls (.keep (.inl (by simp)) (.keep (.inl (by simp)) .nil))))))))
    (nth_mem (i := 6) rfl) (nth_mem (i := 7) rfl) (.head _) rfl rfl rfl rfl rfl (by decide) (by decide) (by decide) ?_
  intro tk1 R1 C1
  dsimp only [List.cons_append, List.nil_append]
  k_with "ini_MInit" => ((with_reducible refine (?_ : J _ _ _ _ (PySem.call (.ref 270) _) _)); refine J.make0 (W := ⟨dA, bA, snA, swA, fnA, faA, frA, oA, aA, soA, daA, d9, 0, fun _ => 0⟩) (op := (Str.ofString "false")) (by assumption) (by assumption) wok C1 (.drop (.keep .ls (.keep .ls (.keep .ls (.keep .ls (.keep .ls (.keep (.inl (by simp)) (.keep (.inl (by simp)) .nil)))))))) (nth_mem (i := 6) rfl) (nth_mem (i := 7) rfl) (.head _) rfl rfl rfl rfl rfl (by decide) (by decide) (by decide) ?_; intro tk2 R2 C2; dsimp only [List.cons_append, List.nil_append])
  repeat' (first | k_extra "ini_MInit" | k_extra "j")
  intro h9 tk9 O9 K9
  refine hret ⟨dA, bA, snA, swA, fnA, faA, frA, oA, aA, soA, daA, d9, 0, tkOf _ _ _ _ _ _ _ _ _ _ _ _ _ 0 _ _ _⟩ _ _ ⟨hlo, hlt, q2, q3, q4, q5, q6, q7, Nat.lt_trans q0 q8, q9, q10, q11⟩ rfl rfl (O9.N _ (nth_mem (i := 6) rfl)).1 (core_re (C2.at_ _ _ _ O9 fun p hp => List.mem_append_right [_, _, _, _, _, _, _] hp)) (O9.N _ (nth_mem (i := 2) rfl)).1 (O9.N _ (nth_mem (i := 1) rfl)).1 (O9.N _ (nth_mem (i := 0) rfl)).1 ?_ ?_
  · have fr : ∀ a, (∃ o, (a, o) ∈ _) → bA < a → s.heap.get? a = none := fun a q lt => Exists.elim q fun o hm => fresh_of en.gs O9.N hm (List.not_mem_cons_of_ne_of_not_mem (Nat.ne_of_lt lt).symm (List.not_mem_cons_of_ne_of_not_mem (Nat.ne_of_lt (Nat.lt_trans hlt lt)).symm List.not_mem_nil))
    exact fun a lt ha => fr a ((List.mem_append.mp ha).elim (fun q => Exists.elim (C2.has a q) fun o ho => ⟨o, List.mem_append_right [_, _, _, _, _, _, _] ho⟩) (in3 (nth_mem (i := 2) rfl) (nth_mem (i := 1) rfl) (nth_mem (i := 0) rfl) a)) lt
  · exact K9.less (fun p hp => (ND p hp).1) (List.forall_mem_cons.mpr ⟨.inr (O9.N _ (nth_mem (i := 5) rfl)).1, List.forall_mem_cons.mpr ⟨.inl (.head _), List.forall_mem_nil _⟩⟩)
end
end Mine

open PySem PySem.W PySem.Calls PyProof.Rows
set_option Elab.async false
set_option linter.all false
set_option maxRecDepth 100000
set_option maxHeartbeats 40000000
namespace Mine
theorem bound2 {g h h' : Heap} {L : Addr} {m : Str → Option Value} {news : List (Addr × Obj)} (F : Fr g L h m) (N : News g L h news) {C : List Addr} (hk : Keep C h h') (hC : ∀ a ∈ C, g.get? a = none ∧ a ≠ L) (D : List (Addr × Obj))
    (hD : ∀ p ∈ D, h'.get? p.1 = some p.2) (hf : ∀ p ∈ D, ∃ o, (p.1, o) ∈ news) :
    ∃ R, Fr g L h' m ∧ News g L h' (D ++ R) ∧ OwnOff R (D.map (·.1)) ∧ R = tailOf g L h' (D.map (·.1)) := by
  have nL : L ∉ C := fun q => (hC _ q).2 rfl
  have F' : Fr g L h' m := by
    obtain ⟨oL, es, ep, hL, r⟩ := F.ns
    refine ⟨⟨oL, es, ep, hk _ _ nL hL, r⟩, fun b o e => hk _ _ (fun q => ?_) (F.keep b o e), F.above⟩
    rw [(hC _ q).1] at e; cases e
  refine ⟨_, F', ?_, ?_, rfl⟩
  · intro p hp
    rcases List.mem_append.mp hp with hp | hp
    · obtain ⟨o, ho⟩ := hf _ hp
      exact ⟨hD _ hp, (N _ ho).2.1, (N _ ho).2.2⟩
    · obtain ⟨⟨_, h2, h3⟩, h4⟩ := mem_tailOf.mp hp
      exact ⟨h4, h2, h3⟩
  · intro p hp b hb e
    obtain ⟨⟨h1, _, _⟩, _⟩ := mem_tailOf.mp hp
    exact h1 (e ▸ hb)
section
variable {w : World} {mean : ExcName → Option Value} {mg mb : Str → Option Value} {A : Around} {s : Shared} {Q : Result → Shared → Prop}
  {name qual : Str} {params : Arguments} {body : List Stmt} {scope : Scope} {dV kV doc pm cdv ct oc : Value} {an od : Option Addr} {osl : Array (Option Value)} {f : Addr}
  {hb : Heap}
theorem code_PS {cc : Addr} {pos : List Value} {kw : List (Str × Value)} (D : List (Addr × Obj)) (binds : List (Str × Value)) (R : A.depth < recursionLimit) (G : Gd w mean mg mb hb) (kp : ∀ b o, hb.get? b = some o → s.heap.get? b = some o)
    (N : ∀ p ∈ D, s.heap.get? p.1 = some p.2 ∧ hb.get? p.1 = none)
    (h : ∀ g L' h₁, (∀ h' L'' m, Fr g L'' h' m → Keep (D.map (·.1)) s.heap h') → (∀ b o, b ∉ D.map (·.1) → s.heap.get? b = some o → g.get? b = some o) → (∀ b o, hb.get? b = some o → g.get? b = some o) →
      Fr g L' h₁ (fun y => binds.reverse.lookup y) → News g L' h₁ D → (heapK w.params).In g → Top viewK LO mean mg mb g → (∀ p ∈ D, p.1 < L') →
      _root_.PySem.wpAt (model PySem.Challenge.rw_sj0101_01.row.prog w) (A.deeper (ksEnv qual scope L' f cdv cc)) (.func body (ksEnv qual scope L' f cdv cc)) (execs body (ksEnv qual scope L' f cdv cc)) (fun fl s' => Q (.ok (.ret (match fl with | .ret v => v | _ => .none))) s') (fun _ _ => False)
        { s with heap := h₁, toks := s.toks + binds.length })
    (ho : autoParam ((heapK w.params).lookup f = some ⟨oc, od, .func (ksFn name qual params body scope dV kV doc pm an cdv ct cc), osl⟩) Mine.aT0._auto_1) (hcd : autoParam (codeIn (heapK w.params) cdv qual = true) Mine.aT0._auto_1)
    (hbind : BindsTo s (ksFn name qual params body scope dV kV doc pm an cdv ct cc) ⟨pos, kw⟩ binds := by exact BindsTo.of_eq rfl) (hloc : ∀ y ∈ binds, scope.names.lookup y.1 = some .local := by exact locs rfl)
    (hco : autoParam (scope.isCoroutine = false) Mine.aT1._auto_1) (hgen : autoParam (scope.isGenerator = false) Mine.aT1._auto_1) (hk : autoParam (scope.kind = .function) Mine.aT1._auto_1)
    (hcell : autoParam (∀ x ∈ scope.names, x.2 ≠ .cell) Mine.aT2._auto_1) : codeAny (model PySem.Challenge.rw_sj0101_01.row.prog w) A (.call (.ref f) ⟨pos, kw⟩) Q s := by
  have nm : ∀ b o, hb.get? b = some o → b ∉ D.map (·.1) := fun b o e q => by
    obtain ⟨p, hp, rfl⟩ := List.mem_map.mp q
    rw [(N p hp).2] at e; cases e
  have st : ∀ b o, hb.get? b = some o → (hideAll s.heap (D.map (·.1))).get? b = some o := fun b o e => hideAll_get _ (kp b o e) (nm b o e)
  have G' := G.keeps st
  have Gs := G.keeps kp
  refine ks_codeAny_call_defAt (fd := ksFn name qual params body scope dV kV doc pm an cdv ct cc) (body := body) (binds := binds) R (Gs.X _ _ ho) rfl Gs.T.nolimit (codeRec_of Gs.X hcd) rfl hbind hcell hloc (fun h₁ hns hk₁ => ?_) hco hgen hk
  exact ks_wpAt_mono (h (hideAll s.heap (D.map (·.1))) s.heap.objs.size h₁ (fun h' L'' m F => hide_keep F) (fun b o n e => hideAll_get _ e n) st
    ⟨hns, fun b o e => hk₁ b o (of_hideAll _ e), Nat.le_of_eq (hideAll_size _ _)⟩
    (fun p hp => ⟨hk₁ _ _ (N p hp).1, Nat.ne_of_lt (Heap.lt_size (N p hp).1), hideAll_none _ (List.mem_map_of_mem hp)⟩) G'.X G'.T (fun p hp => Heap.lt_size (N p hp).1)) (fun fl s' hl => hl) fun _ _ y => y.elim
end
section
variable {w : World} {mean : ExcName → Option Value} {mg mb : Str → Option Value} {dp un : Nat} {fr : Option (List Env)} {gd : Option (List Code)} {s : Shared} {Q : Result → Shared → Prop}
  {name qual : Str} {params : Arguments} {body : List Stmt} {scope : Scope} {dV kV doc pm cdv ct oc : Value} {an od : Option Addr} {osl : Array (Option Value)} {f : Addr} {hb : Heap} {n : Nat}
theorem code_JS {cc : Addr} {pos : List Value} (D : Led) (binds : List (Str × Value)) (R : Room dp un (n + 1)) (G : Gd w mean mg mb hb) (kp : ∀ b o, hb.get? b = some o → s.heap.get? b = some o) (hD : ∀ p ∈ D, s.heap.get? p.1 = some p.2 ∧ hb.get? p.1 = none) (nd : Nd D)
    (h : ∀ c : Cx, Gc w c → Rm c n → EnvX c (ksEnv qual scope c.L f cdv cc) → Ent c s.heap hb D → ∀ PF : Flow → Led → Mp → Prop, (∀ fl l m, (∀ h tk, Own c l m h → Keep (D.map (·.1)) s.heap h → Q (.ok (.ret (retOf fl))) { s with heap := h, toks := tk }) → PF fl l m) → ∀ h tk, Own c D binds.reverse h →
      _root_.PySem.wpAt (model PR w) c.A (.func body (ksEnv qual scope c.L f cdv cc)) (execs body (ksEnv qual scope c.L f cdv cc)) (Post c PF) noE (c.st h tk))
    (ho : autoParam ((heapK w.params).lookup f = some ⟨oc, od, .func (ksFn name qual params body scope dV kV doc pm an cdv ct cc), osl⟩) Mine.aT0._auto_1) (hcd : autoParam (codeIn (heapK w.params) cdv qual = true) Mine.aT0._auto_1)
    (hbind : BindsTo s (ksFn name qual params body scope dV kV doc pm an cdv ct cc) ⟨pos, []⟩ binds := by exact BindsTo.of_eq rfl) (hloc : ∀ y ∈ binds, scope.names.lookup y.1 = some .local := by exact locs rfl)
    (hco : autoParam (scope.isCoroutine = false) Mine.aT1._auto_1) (hgen : autoParam (scope.isGenerator = false) Mine.aT1._auto_1) (hk : autoParam (scope.kind = .function) Mine.aT1._auto_1)
    (hcell : autoParam (∀ x ∈ scope.names, x.2 ≠ .cell) Mine.aT2._auto_1) : codeAny (model PR w) (AR dp un fr gd) (.call (.ref f) ⟨pos, []⟩) Q s := by
  have rdp := R.dp
  have run := R.un
  refine code_PS D binds (by show dp < _; lia) G kp hD ?_ ho hcd hbind hloc hco hgen hk hcell
  intro g L' h₁ hkp gs gb F N X T ll
  refine ks_wpAt_mono (h ⟨(AR dp un fr gd).deeper (ksEnv qual scope L' f cdv cc), g, L', s.gens, s.drawn, s.os⟩ ⟨X, _, _, _, T⟩ ⟨dp + 1, un + 3, fr.map (ksEnv qual scope L' f cdv cc :: ·), gd, rfl, ⟨by lia, by lia⟩⟩ ⟨_, _, _, _, _, rfl, hk⟩ ⟨gs, gb, ll⟩
    (fun fl l m => ∀ h tk, Own _ l m h → Keep (D.map (·.1)) s.heap h → Q (.ok (.ret (retOf fl))) { s with heap := h, toks := tk }) (fun _ _ _ h => h) h₁ (s.toks + binds.length) ⟨F, N, nd⟩) ?_ fun _ _ y => y.elim
  rintro fl s' ⟨h', tk', l, m, rfl, O, p⟩
  have := p h' tk' O (hkp _ _ _ O.F)
  cases fl <;> exact this
end
section
variable {w : World} {c : Cx} {l : Led} {m : Mp} {P : Value → Led → Mp → Prop} {PF : Flow → Led → Mp → Prop} {N : Nat}
theorem super_run {body rest : List Stmt} {q : Str} {scope : Scope} {p0 p1 apos pos pos' : Pos} {name : Str} {fd : FuncData} {ar : Arg} {vs : Array Value} {file : Str} {tf : Tok} {oc ccl cl : Value} {od cdd cld : Option Addr} {osl ccs csl : Array (Option Value)} {cdD : ClassData} {f cda cc D x C dx : Addr} {o : Obj} {pl : Sem Bool}
    (G : Gc w c) (mx : (x, instObj C dx) ∈ l) (md : (dx, o) ∈ l) (hv : m.lookup ar.arg = some (.ref x)) {h : Heap} {tk : Nat} (O : Own c l m h)
    (k : ∀ so, (∀ p ∈ l, @LT.lt Nat _ p.1 so) → J w c ((so, ks_superObj D x C) :: l) m (getMethod (.ref so) name pl) (KMet2 w c (ksEnv q scope c.L f (.ref cda) cc) (KExpr (nxt w c rest (ksEnv q scope c.L f (.ref cda) cc) PF)) pos []))
    (hf : autoParam ((heapK w.params).lookup f = some ⟨oc, od, .func fd, osl⟩) Mine.aT0._auto_1) (hp : autoParam ((fd.params.posonlyargs ++ fd.params.args).head? = some ar) Mine.aT1._auto_1)
    (hcode : autoParam ((heapK w.params).lookup cda = some ⟨ccl, cdd, .fields vs, ccs⟩) Mine.aT0._auto_1) (hvs : autoParam (vs[2]? = some (.str file tf)) Mine.aT1._auto_1) (hfile : ((PR.main.file : Str) == file) = true)
    (hcell : autoParam ((heapK w.params).lookup cc = some ⟨cl, cld, .cell (some (.ref D)), csl⟩) Mine.aT0._auto_1) (hD : autoParam (clsIn (heapK w.params) D = some cdD) Mine.aT0._auto_1) (hsub : autoParam (mroIn (heapK w.params) C (.ref D) = some true) Mine.aT0._auto_1) (hsuper : autoParam (nsIn (heapK w.params) mainGlobals "super" = some none) Mine.aT0._auto_1)
    (hat : autoParam ((name == ("__class__" : Str)) = false) Mine.aT2._auto_1) (hks : autoParam (scope.names.lookup ("super" : Str) = some .globalImplicit) Mine.aT1._auto_1) (hkc : autoParam (scope.names.lookup ("__class__" : Str) = some .free) Mine.aT1._auto_1) (hka : autoParam (scope.names.lookup ar.arg = some .local) Mine.aT1._auto_1) (hk : autoParam (scope.kind = .function) Mine.aT1._auto_1)
    (htop : (PR.main.scope.names.lookup ("super" : Str)).isSome = false) (hboot : bootBuiltins "super" = some (.type "super"))
    (hi : autoParam (interactive (ksEnv q scope c.L f (.ref cda) cc) = false) Mine.aT1._auto_1) (hs : autoParam (swapsWith (.Call (.Attribute (.Call (.Name "super" p0) [] [] p1) name apos) [] [] pos) none pos'.line (ksEnv q scope c.L f (.ref cda) cc) = pure false) Mine.aT1._auto_1)
    (he : eval (.Call (.Attribute (.Call (.Name "super" p0) [] [] p1) name apos) [] [] pos) (ksEnv q scope c.L f (.ref cda) cc) = (do
      let ov ← attributeBase (.Call (.Name "super" p0) [] [] p1) name (ksEnv q scope c.L f (.ref cda) cc) (eval (.Call (.Name "super" p0) [] [] p1) (ksEnv q scope c.L f (.ref cda) cc))
      standAt apos.atName
      let (g, first) ← holding [ov] (getMethod ov name pl)
      callWith pos g first (backTo pos (starEach [] (ksEnv q scope c.L f (.ref cda) cc))) [])) :
    _root_.PySem.wpAt (model PR w) c.A (.func body (ksEnv q scope c.L f (.ref cda) cc)) (execs (.Expr (.Call (.Attribute (.Call (.Name "super" p0) [] [] p1) name apos) [] [] pos) pos' :: rest) (ksEnv q scope c.L f (.ref cda) cc)) (Post c PF) noE (c.st h tk) := by
  obtain ⟨_, _, _, T⟩ := G.T
  refine ks_wpAt_execs_cons (ks_wpAt_Expr_any (ks_wpAt_MethodCall (pl := pl) (ks_node O.F G.X O.N T hf hp hv (InstAt.of_news O.N mx md) hcode hvs hfile hcell hD hsub hsuper hat hks hkc hka hk htop hboot ?_) he) hi hs)
  intro so h' F' N' lt
  exact (k so lt).run ⟨F', N', O.nd.cons lt⟩ fun fx l m h tk O p => p.run O fun v l m h tk O p => wpAt_of_wpAny (J.run p O fun fl l m h tk O p => ⟨_, _, _, _, rfl, O, p⟩)
end
theorem new_off {g h : Heap} {L : Addr} {m : Str → Option Value} (F : Fr g L h m) {a : Addr} (e : h.get? a = none) : g.get? a = none ∧ a ≠ L := by
  obtain ⟨oL, _, _, hL, _⟩ := F.ns
  refine ⟨?_, fun q => by rw [q, hL] at e; cases e⟩
  cases q : g.get? a with
  | none => rfl
  | some o => rw [F.keep _ _ q] at e; cases e
noncomputable abbrev Wd.fun3 (W : Wd) : List Addr := [W.fnA, W.faA, W.frA]
theorem Wd.Ok.funs {W : Wd} (k : W.Ok) : @LT.lt Nat _ W.dA W.bA ∧ @LT.lt Nat _ W.bA W.fnA ∧ @LT.lt Nat _ W.fnA W.faA ∧ @LT.lt Nat _ W.faA W.frA ∧ @LT.lt Nat _ W.frA W.oA := ⟨k.o1, Nat.lt_trans (Nat.lt_trans k.o2 k.o3) k.o4, k.o5, k.o6, k.o7⟩
theorem Wd.Ok.up {W : Wd} (k : W.Ok) : ∀ a ∈ W.core ++ W.fun3, @LT.lt Nat _ W.bA a := by
  obtain ⟨_, a2, a3, a4, a5⟩ := k.funs
  have b3 := Nat.lt_trans a2 a3
  have b4 := Nat.lt_trans b3 a4
  have b5 := Nat.lt_trans b4 a5
  have b8 := Nat.lt_trans b5 k.o8
  have b9 := Nat.lt_trans b8 k.o9
  have b10 := Nat.lt_trans b9 k.o10
  exact fun a ha => (List.mem_append.mp ha).elim
    ((List.forall_mem_cons.mpr ⟨b5, List.forall_mem_cons.mpr ⟨b8, List.forall_mem_cons.mpr ⟨b9, List.forall_mem_cons.mpr ⟨b10, List.forall_mem_cons.mpr ⟨Nat.lt_trans b10 k.o11, List.forall_mem_nil _⟩⟩⟩⟩⟩ : ∀ a ∈ W.core, @LT.lt Nat _ W.bA a) a)
    ((List.forall_mem_cons.mpr ⟨a2, List.forall_mem_cons.mpr ⟨b3, List.forall_mem_cons.mpr ⟨b4, List.forall_mem_nil _⟩⟩⟩ : ∀ a ∈ W.fun3, @LT.lt Nat _ W.bA a) a)
section
variable {w : World} {c : Cx} {l : Led} {m : Mp} {P : Value → Led → Mp → Prop} {PM : Value × List Value → Led → Mp → Prop} {N : Nat}
theorem J.smeth {so x C dx D f2 : Addr} {o : Obj} {name : Str} {pl : Sem Bool} (G : Gc w c) (mso : (so, ks_superObj D x C) ∈ l) (mx : (x, instObj C dx) ∈ l) (md : (dx, o) ∈ l) (ho : nsIn (heapK w.params) cStatics "thirdparty.any" = some none) (hm : ks_superIn (heapK w.params) C D name = some (some (.ref f2))) (ht : typeIn (heapK w.params) (.ref f2) = some (.type "function"))
    (k : ∀ q, PM (.ref q, []) ((q, methodObj (.ref f2) (.ref x)) :: l) m) (hn : autoParam ((name == ("__class__" : Str)) = false) Mine.aT2._auto_1) : J w c l m (getMethod (.ref so) name pl) PM := fun h tk O =>
  ks_method O.F G.X O.N mso (InstAt.of_news O.N mx md) ho hm ht hn fun q h' F' N' lt => ⟨h', tk + 1, _, _, rfl, ⟨F', N', O.nd.cons lt⟩, k q⟩
theorem J.fnM0 {pos : Pos} {env : Env} {q g : Addr} {self : Value} {first : List Value} (G : Gc w c) (hq : (q, methodObj (.ref g) self) ∈ l) (k : J w c l m (PySem.call (.ref q) (first ++ [])) P) (hf : fnIn (heapK w.params) g = true) : J w c l m (callWith pos (.ref q) first (backTo pos (starEach [] env)) []) P := fun h tk O =>
  callWith_M0 (methP O.N hq (G.X.keeps O.F.keep)) hf (k h tk O)
structure BkI (w : World) (c : Cx) (W : Wd) (dA bA : Addr) (h' : Heap) (R : Led) : Prop where
  ok : W.Ok
  d : W.dA = dA
  b : W.bA = bA
  core : Core w W [tm0, tm1, tm2] h'
  n : h'.get? W.fnA = some (lsO #[] 0)
  a : h'.get? W.faA = some (lsO #[] 0)
  r : h'.get? W.frA = some (lsO #[] 0)
  off : ∀ a : Nat, bA < a → a ∈ W.core ++ W.fun3 → a ≠ c.L ∧ c.g.get? a = none
  later : ∀ h2 l2 m2, Own c l2 m2 h2 → (∀ p ∈ R, p ∈ l2) → (∀ b o, b ≠ dA → b ≠ bA → b ≠ c.L → h'.get? b = some o → h2.get? b = some o) ∧ TupKeep h' h2
theorem J.bankInit {q bA dA : Addr} (G : Gc w c) (R : Rm c N) (hlt : @LT.lt Nat _ dA bA) (hlo : @LT.lt Nat _ 100 dA) (md : (dA, dictOf [] 0) ∈ l) (mb : (bA, instObj 656 dA) ∈ l) (mq : (q, methodObj (.ref 137) (.ref bA)) ∈ l)
    (k : ∀ W h' R, BkI w c W dA bA h' R → P .none ((dA, dictOf ((bankEs w W).take 13) 13) :: (bA, instObj 656 dA) :: R) m) (hN : autoParam (10 ≤ N) Mine.aT2._auto_1) : J w c l m (PySem.call (.ref q) []) P := fun h tk O => by
  obtain ⟨_, _, _, g⟩ := G.gd
  obtain ⟨dp, un, fr, gd, eA, r⟩ := R
  rw [eA]
  refine call_meth O.N mq (bank_init g O.F.keep (Room.le r hN) bA dA hlt hlo (O.N _ mb).1 (O.N _ md).1 (O.N _ mb).2.2 (O.N _ md).2.2 ?_)
  intro W h' tk' wok ed eb hd' C n1 n2 n3 fr K
  have nbd : bA ≠ dA := Nat.ne_of_gt hlt
  have inb : h'.get? bA = some (instObj 656 dA) := K _ _ (fun q => nbd (List.mem_singleton.mp q)) (O.N _ mb).1
  obtain ⟨R, F', N', off, eR⟩ := bound2 O.F O.N K (fun a ha => List.mem_singleton.mp ha ▸ ⟨(O.N _ md).2.2, (O.N _ md).2.1⟩) [(dA, dictOf ((bankEs w W).take 13) 13), (bA, instObj 656 dA)]
    (List.forall_mem_cons.mpr ⟨hd', List.forall_mem_cons.mpr ⟨inb, List.forall_mem_nil _⟩⟩) (List.forall_mem_cons.mpr ⟨⟨_, md⟩, List.forall_mem_cons.mpr ⟨⟨_, mb⟩, List.forall_mem_nil _⟩⟩)
  have nd : Nd ([(dA, dictOf ((bankEs w W).take 13) 13), (bA, instObj 656 dA)] ++ R) := nd_app (List.pairwise_cons.mpr ⟨List.forall_mem_cons.mpr ⟨nbd.symm, List.forall_mem_nil _⟩, List.pairwise_singleton _ _⟩) (eR ▸ nd_tail) off
  have key : ∀ h2 l2 m2, Own c l2 m2 h2 → (∀ p ∈ R, p ∈ l2) → ∀ b o, b ≠ dA → b ≠ bA → b ≠ c.L → h'.get? b = some o → h2.get? b = some o := fun h2 l2 m2 O2 s b o b1 b2 b3 e =>
    later F' eR O2.F O2.N s b o (List.not_mem_cons_of_ne_of_not_mem b1 (List.not_mem_cons_of_ne_of_not_mem b2 List.not_mem_nil)) b3 e
  refine ⟨h', tk', _, _, rfl, ⟨F', N', nd⟩, k W h' R ⟨wok, ed, eb, C, n1, n2, n3, fun a lt ha => ?_, fun h2 l2 m2 O2 s => ⟨key h2 l2 m2 O2 s, fun b o xs n e hc hs => key h2 l2 m2 O2 s b o (fun q => ?_) (fun q => ?_) (frame_dict F' e hs) e⟩⟩⟩
  · have := new_off O.F (fr a lt ha)
    exact ⟨this.2, this.1⟩
  · subst q; rw [hd'] at e; cases e; exact absurd hc (by simp)
  · subst q; rw [inb] at e; cases e; exact absurd hc (by simp)
end
section
variable {w : World} {mean : ExcName → Option Value} {mg mb : Str → Option Value} {dp un : Nat} {fr : Option (List Env)} {gd : Option (List Code)} {s : Shared} {Q : Result → Shared → Prop} {hb : Heap}
theorem term_init (G : Gd w mean mg mb hb) (kp : ∀ b o, hb.get? b = some o → s.heap.get? b = some o) (R : Room dp un 16) (bA dA : Nat) (hlt : dA < bA) (hlo : 100 < dA) (hB : s.heap.get? bA = some (instObj 656 dA)) (hD : s.heap.get? dA = some (dictOf [] 0)) (hB' : hb.get? bA = none) (hD' : hb.get? dA = none)
    (hret : ∀ W h' tk', W.Ok → W.dA = dA → W.bA = bA → Bank w W [tm0, tm1, tm2] h' → h'.get? W.fnA = some (lsO #[] 0) → h'.get? W.faA = some (lsO #[] 0) → h'.get? W.frA = some (lsO #[] 0) →
      (∀ a : Nat, bA < a → a ∈ W.core ++ [W.fnA, W.faA, W.frA] → s.heap.get? a = none) → Keep [dA] s.heap h' → Q (.ok (.ret .none)) { s with heap := h', toks := tk' }) :
    codeAny (model PySem.Challenge.rw_sj0101_01.row.prog w) (AR dp un fr gd) (.call (.ref 555) ⟨[.ref bA], []⟩) Q s := by
  have X₀ := G.X
  revert X₀
  k_fill
  intro X₀
  clear X₀
  have ND : ∀ p ∈ [(bA, instObj 656 dA), (dA, dictOf [] 0)], s.heap.get? p.1 = some p.2 ∧ hb.get? p.1 = none := List.forall_mem_cons.mpr ⟨⟨hB, hB'⟩, List.forall_mem_cons.mpr ⟨⟨hD, hD'⟩, List.forall_mem_nil _⟩⟩
  refine code_JS (n := 15) [(bA, instObj 656 dA), (dA, dictOf [] 0)] [((Str.ofString "self"), .ref bA)] R G kp ND (List.pairwise_cons.mpr ⟨List.forall_mem_cons.mpr ⟨(Nat.ne_of_lt hlt).symm, List.forall_mem_nil _⟩, List.pairwise_singleton _ _⟩) ?_
  intro c G R he en PF fin h tk O
  dsimp only [List.reverse, List.reverseAux] at O
  refine super_run (C := 656) (x := bA) (dx := dA) (hfile := by first | rfl | decide +kernel) (htop := by decide +kernel) (hboot := by first | boot_by_name | rfl | kernel_rfl) (he := by rfl) G (.head _) (.tail _ (.head _)) rfl O ?_
  intro so _
  refine J.smeth G (.head _) (.tail _ (.head _)) (.tail _ (.tail _ (.head _))) (by k_is) (by ks_is) (by k_is) ?_
  intro q
  refine J.fnM0 G (.head _) ?_ (by k_is)
  refine J.bankInit G R hlt hlo (.tail _ (.tail _ (.tail _ (.head _)))) (.tail _ (.tail _ (.head _))) (.head _) ?_
  intro W h' R' I
  refine nxt_next ?_
  simp only [bankEs, List.take_succ_cons, List.take_zero]
  k_with "ti_MInit2" => ((with_reducible refine (?_ : J _ _ _ _ (setAttr _ _ _) _)); refine J.setA _ (by assumption) (by k_extra "nth") (by k_extra "upf") (by k_is) (by k_is) (by k_is) (by k_is) (by k_get) (by intro t_l; k_put) (fun _ => Nat.le_of_ble_eq_true rfl) ?_; intro t_l)
  k_with "ti_MInit2" => ((with_reducible refine J.dict0 ?_ ?_); (focus assumption); intro d9 o9 lo9 hi9 hs9)
  repeat' (first | k_extra "ti_MInit2" | k_extra "j")
  refine fin _ _ _ ?_
  intro h9 tk9 O9 K9
  obtain ⟨la, tk⟩ := I.later h9 _ _ O9 (fun p hp => .tail _ (.tail _ (.tail _ hp)))
  have up := I.ok.up
  have ka : ∀ (a : Nat) o, a ∈ W.core ++ W.fun3 → h'.get? a = some o → h9.get? a = some o := fun a o ha e => have lt : bA < a := I.b ▸ up a ha; la a o (Nat.ne_of_gt (Nat.lt_trans hlt lt)) (Nat.ne_of_gt lt) (I.off a lt ha).1 e
  have mc := @Wd.memC W
  have l2 := fun a (h : a ∈ W.core) => List.mem_append_left W.fun3 h
  have l3 := fun a (h : a ∈ W.fun3) => List.mem_append_right W.core h
  have Cf : Core w W [tm0, tm1, tm2] h9 := I.core.cases fun os as ss ds n1 n2 n3 n4 es ep xs C => ⟨_, _, _, _, _, _, _, _, _, _, _, C.tup tk (ka _ _ (l2 _ mc.1) C.ops) (ka _ _ (l2 _ mc.2.1) C.args) (ka _ _ (l2 _ mc.2.2.1) C.sorts) (ka _ _ (l2 _ mc.2.2.2.1) C.datas) (ka _ _ (l2 _ mc.2.2.2.2) C.nums)⟩
  have fr : ∀ a : Nat, bA < a → a ∈ W.core ++ W.fun3 → s.heap.get? a = none := fun a lt ha => by
    cases q : s.heap.get? a with
    | none => rfl
    | some o =>
      have := en.gs a o (List.not_mem_cons_of_ne_of_not_mem (Nat.ne_of_gt lt) (List.not_mem_cons_of_ne_of_not_mem (Nat.ne_of_gt (Nat.lt_trans hlt lt)) List.not_mem_nil)) q
      rw [(I.off a lt ha).2] at this; cases this
  have e1 := I.n
  have e2 := I.a
  have e3 := I.r
  have wo := I.ok
  have ed := I.d
  have eb := I.b
  clear I la up
  subst ed; subst eb
  refine hret ⟨W.dA, W.bA, W.snA, W.swA, W.fnA, W.faA, W.frA, W.oA, W.aA, W.soA, W.daA, W.nA, _, fun i => if i = 13 then _ else W.tk i⟩ _ _ ⟨wo.lo, wo.o1, wo.o2, wo.o3, wo.o4, wo.o5, wo.o6, wo.o7, wo.o8, wo.o9, wo.o10, wo.o11⟩ rfl rfl ⟨(O9.N _ (nth_mem (i := 2) rfl)).1, (O9.N _ (nth_mem (i := 1) rfl)).1, core_re Cf⟩ (ka _ _ (l3 _ (.head _)) e1) (ka _ _ (l3 _ (.tail _ (.head _))) e2) (ka _ _ (l3 _ (.tail _ (.tail _ (.head _)))) e3) fr ?_
  exact K9.less (fun p hp => (ND p hp).1) (List.forall_mem_cons.mpr ⟨.inr (O9.N _ (nth_mem (i := 2) rfl)).1, List.forall_mem_cons.mpr ⟨.inl (.head _), List.forall_mem_nil _⟩⟩)
end
end Mine

open PySem PySem.W PySem.Calls PyProof.Rows
set_option Elab.async false
set_option linter.all false
set_option maxRecDepth 100000
set_option maxHeartbeats 40000000
namespace Mine
section
variable {w : World} {mean : ExcName → Option Value} {mg mb : Str → Option Value} {dp un : Nat} {fr : Option (List Env)} {gd : Option (List Code)} {s : Shared} {Q : Result → Shared → Prop} {hb : Heap}
theorem judge_init (G : Gd w mean mg mb hb) (kp : ∀ b o, hb.get? b = some o → s.heap.get? b = some o) (R : Room dp un 6) (jA jd : Nat) (bk : Value) (hlt : jd < jA) (hJ : s.heap.get? jA = some (instObj 733 jd)) (hD : s.heap.get? jd = some (dictOf [] 0)) (hJ' : hb.get? jA = none) (hD' : hb.get? jd = none)
    (hret : ∀ h' tk' jt, h'.get? jd = some (dictOf [⟨PyData.keyHash w.params (Str.ofString "bank"), .str (Str.ofString "bank") jt, bk⟩] 1) → Keep [jd] s.heap h' → Q (.ok (.ret .none)) { s with heap := h', toks := tk' }) :
    codeAny (model PySem.Challenge.rw_sj0101_01.row.prog w) (AR dp un fr gd) (.call (.ref 674) ⟨[.ref jA, bk], []⟩) Q s := by
  have X₀ := G.X
  revert X₀
  k_fill
  intro X₀
  clear X₀
  have ND : ∀ p ∈ [(jA, instObj 733 jd), (jd, dictOf [] 0)], s.heap.get? p.1 = some p.2 ∧ hb.get? p.1 = none := List.forall_mem_cons.mpr ⟨⟨hJ, hJ'⟩, List.forall_mem_cons.mpr ⟨⟨hD, hD'⟩, List.forall_mem_nil _⟩⟩
  refine code_J (n := 5) [(jA, instObj 733 jd), (jd, dictOf [] 0)] [((Str.ofString "self"), .ref jA), ((Str.ofString "bank"), bk)] R G kp ND (List.pairwise_cons.mpr ⟨List.forall_mem_cons.mpr ⟨(Nat.ne_of_lt hlt).symm, List.forall_mem_nil _⟩, List.pairwise_singleton _ _⟩) ?_
  intro c G R he en
  dsimp only [List.reverse, List.reverseAux]
  k_with "ini_MFun" => ((with_reducible refine (?_ : J _ _ _ _ (setAttr _ _ _) _)); refine J.setA _ (by assumption) (by k_extra "nth") (by k_extra "upf") (by k_is) (by k_is) (by k_is) (by k_is) (by k_get) (by intro t_l; k_put) (fun _ => Nat.le_of_ble_eq_true rfl) ?_; intro t_l)
  repeat' (first | k_extra "ini_MFun" | k_extra "j")
  intro h9 tk9 O9 K9
  exact hret _ _ _ (O9.N _ (nth_mem (i := 1) rfl)).1 (K9.less (fun p hp => (ND p hp).1) (List.forall_mem_cons.mpr ⟨.inr (O9.N _ (.head _)).1, List.forall_mem_cons.mpr ⟨.inl (.head _), List.forall_mem_nil _⟩⟩))
end
structure Funs (W : Wd) (h : Heap) (ns as rs : Array Value) : Prop where
  n : ∃ k, h.get? W.fnA = some (lsO ns k)
  a : ∃ k, h.get? W.faA = some (lsO as k)
  r : ∃ k, h.get? W.frA = some (lsO rs k)
  z : ns.size = as.size ∧ as.size = rs.size ∧ rs.size ≤ 10
theorem Wd.Ok.low {W : Wd} (k : W.Ok) {a : Nat} (h : a < W.oA) : a ∉ W.core := by
  have h8 := Nat.lt_trans h k.o8
  have h9 := Nat.lt_trans h8 k.o9
  have h10 := Nat.lt_trans h9 k.o10
  exact List.not_mem_cons_of_ne_of_not_mem (Nat.ne_of_lt h) (List.not_mem_cons_of_ne_of_not_mem (Nat.ne_of_lt h8) (List.not_mem_cons_of_ne_of_not_mem (Nat.ne_of_lt h9) (List.not_mem_cons_of_ne_of_not_mem (Nat.ne_of_lt h10) (List.not_mem_cons_of_ne_of_not_mem (Nat.ne_of_lt (Nat.lt_trans h10 k.o11)) List.not_mem_nil))))
theorem Wd.Ok.fne {W : Wd} (k : W.Ok) : ∀ a ∈ W.bank, a ≠ W.fnA ∧ a ≠ W.faA ∧ a ≠ W.frA := by
  obtain ⟨a1, a2, a3, a4, a5⟩ := k.funs
  have up : ∀ x : Nat, W.frA < x → x ≠ W.fnA ∧ x ≠ W.faA ∧ x ≠ W.frA := fun x h => ⟨(Nat.ne_of_lt (Nat.lt_trans (Nat.lt_trans a3 a4) h)).symm, (Nat.ne_of_lt (Nat.lt_trans a4 h)).symm, (Nat.ne_of_lt h).symm⟩
  have dn : ∀ x : Nat, x < W.fnA → x ≠ W.fnA ∧ x ≠ W.faA ∧ x ≠ W.frA := fun x h => ⟨Nat.ne_of_lt h, Nat.ne_of_lt (Nat.lt_trans h a3), Nat.ne_of_lt (Nat.lt_trans (Nat.lt_trans h a3) a4)⟩
  have h8 := Nat.lt_trans a5 k.o8
  have h9 := Nat.lt_trans h8 k.o9
  have h10 := Nat.lt_trans h9 k.o10
  exact List.forall_mem_cons.mpr ⟨dn _ (Nat.lt_trans a1 a2), List.forall_mem_cons.mpr ⟨dn _ a2, List.forall_mem_cons.mpr ⟨up _ a5, List.forall_mem_cons.mpr ⟨up _ h8, List.forall_mem_cons.mpr ⟨up _ h9, List.forall_mem_cons.mpr ⟨up _ h10, List.forall_mem_cons.mpr ⟨up _ (Nat.lt_trans h10 k.o11), List.forall_mem_nil _⟩⟩⟩⟩⟩⟩⟩
theorem Wd.Ok.ndF {W : Wd} (k : W.Ok) {a b d e f : Obj} : Nd [(W.frA, a), (W.faA, b), (W.fnA, d), (W.bA, e), (W.dA, f)] := by
  obtain ⟨a1, a2, a3, a4, a5⟩ := k.funs
  have b3 := Nat.lt_trans a2 a3
  have b4 := Nat.lt_trans b3 a4
  refine Nd.cons (List.forall_mem_cons.mpr ⟨a4, List.forall_mem_cons.mpr ⟨Nat.lt_trans a3 a4, List.forall_mem_cons.mpr ⟨b4, List.forall_mem_cons.mpr ⟨Nat.lt_trans a1 b4, List.forall_mem_nil _⟩⟩⟩⟩) (Nd.cons (List.forall_mem_cons.mpr ⟨a3, List.forall_mem_cons.mpr ⟨b3, List.forall_mem_cons.mpr ⟨Nat.lt_trans a1 b3, List.forall_mem_nil _⟩⟩⟩) (Nd.cons (List.forall_mem_cons.mpr ⟨a2, List.forall_mem_cons.mpr ⟨Nat.lt_trans a1 a2, List.forall_mem_nil _⟩⟩) (Nd.cons (List.forall_mem_cons.mpr ⟨a1, List.forall_mem_nil _⟩) (Nd.cons (List.forall_mem_nil _) .nil))))
theorem J.lenP {w : World} {c : Cx} {l : Led} {m : Mp} {P : Value → Led → Mp → Prop} {D : Addr} {its : Array Value} {v : Value} {n : Nat} (i : Nat) (h1 : nth l i = some (D, lsO (its.push v) n)) (hz : its.size ≤ 1000) (h : ∀ t, P (.int ((its.size : Int) + 1) t) l m) : J w c l m (PySem.call (.builtin "len") [.ref D]) P := fun _ tk O =>
  kun_lenL (News.isList O.N (nth_mem h1)) (by simp) (by lia) ⟨_, _, _, _, rfl, O, h _⟩
theorem J.tupId {w : World} {c : Cx} {l : Led} {m : Mp} {P : Value → Led → Mp → Prop} {D : Addr} {its : Array Value} (hD : IsTup c.g D its) (h : P (.ref D) l m) : J w c l m (PySem.call (.type "tuple") [.ref D]) P := fun _ _ O =>
  call_tuple_tup (hD.keeps O.F.keep) ⟨_, _, _, _, rfl, O, h⟩
section
variable {w : World} {mean : ExcName → Option Value} {mg mb : Str → Option Value} {dp un : Nat} {fr : Option (List Env)} {gd : Option (List Code)} {s : Shared} {E : Value → Shared → Prop} {Q : Value → Shared → Prop} {hb : Heap}
theorem declare_fn (G : Gd w mean mg mb hb) (kp : ∀ b o, hb.get? b = some o → s.heap.get? b = some o) (R : Room dp un 6) (W : Wd) (wok : W.Ok) {ts : List Tm} (B : Bank w W ts s.heap) (hhi : ∀ a ∈ W.bank ++ [W.fnA, W.faA, W.frA], hb.get? a = none) {ns as rs : Array Value} (Fu : Funs W s.heap ns as rs) (name : Str) (t1 t2 : Tok) (aT : Addr) (items : Array Value) (so : Int)
    (hT : IsTup s.heap aT items) (hsz : ns.size ≤ 9)
    (hret : ∀ tk h' tk', Funs W h' (ns.push (.str name t1)) (as.push (.ref aT)) (rs.push (.int so t2)) → Keep [W.fnA, W.faA, W.frA] s.heap h' → Q (.int (ns.size : Int) tk) { s with heap := h', toks := tk' }) :
    wpAny (model PySem.Challenge.rw_sj0101_01.row.prog w) (AR dp un fr gd) (call (.ref 179) [.ref W.bA, .str name t1, .ref aT, .int so t2]) Q E s := by
  have X₀ := G.X
  revert X₀
  k_fill
  intro X₀
  clear X₀
  obtain ⟨⟨k1, e1⟩, ⟨k2, e2⟩, ⟨k3, e3⟩, z1, z2, z3⟩ := Fu
  have mb7 := @Wd.mem W
  have m3 : ∀ a ∈ [W.fnA, W.faA, W.frA], hb.get? a = none := fun a h => hhi a (List.mem_append_right _ h)
  have ND : ∀ p ∈ [(W.frA, lsO rs k3), (W.faA, lsO as k2), (W.fnA, lsO ns k1), (W.bA, instObj 656 W.dA), (W.dA, dictOf (bankEs w W) 14)], s.heap.get? p.1 = some p.2 ∧ hb.get? p.1 = none :=
    List.forall_mem_cons.mpr ⟨⟨e3, m3 _ (.tail _ (.tail _ (.head _)))⟩, List.forall_mem_cons.mpr ⟨⟨e2, m3 _ (.tail _ (.head _))⟩, List.forall_mem_cons.mpr ⟨⟨e1, m3 _ (.head _)⟩, List.forall_mem_cons.mpr ⟨⟨B.inst, hhi _ (List.mem_append_left _ mb7.2.1)⟩, List.forall_mem_cons.mpr ⟨⟨B.dict, hhi _ (List.mem_append_left _ mb7.1)⟩, List.forall_mem_nil _⟩⟩⟩⟩⟩
  refine call_J (n := 5) _ [((Str.ofString "self"), .ref W.bA), ((Str.ofString "name"), .str name t1), ((Str.ofString "arg_sorts"), .ref aT), ((Str.ofString "result"), .int so t2)] R G kp ND wok.ndF ?_
  intro c G R he en
  have tk0 := en.tup ND (List.forall_mem_cons.mpr ⟨by simp, List.forall_mem_cons.mpr ⟨by simp, List.forall_mem_cons.mpr ⟨by simp, List.forall_mem_cons.mpr ⟨by simp, List.forall_mem_cons.mpr ⟨by simp, List.forall_mem_nil _⟩⟩⟩⟩⟩)
  have hTg : IsTup c.g aT items := by
    obtain ⟨o, e1, e2, n, e3⟩ := hT
    exact ⟨o, tk0 _ _ _ _ e1 e2 e3, e2, n, e3⟩
  dsimp only [List.reverse, List.reverseAux]
  k_with "dec1_MFun" => ((with_reducible refine (?_ : J _ _ _ _ (callWith _ (.type _) _ _ _) _)); refine J.ty ?_)
  k_with "dec1_MFun" => ((with_reducible refine (?_ : J _ _ _ _ (PySem.call (.type "tuple") _) _)); refine J.tupId hTg ?_)
  k_with "dec1_MFun" => ((with_reducible refine (?_ : J _ _ _ _ (PySem.call (.builtin "len") _) _)); refine J.lenP _ (by k_extra "nth") (by lia) ?_; intro t_l)
  repeat' (first | k_extra "dec1_MFun" | k_extra "j")
  intro h9 tk9 O9 K9
  have e9 : (ns.size : Int) + 1 - 1 = (ns.size : Int) := by lia
  rw [e9]
  refine hret _ _ _ ⟨⟨_, (O9.N _ (nth_mem (i := 2) rfl)).1⟩, ⟨_, (O9.N _ (nth_mem (i := 1) rfl)).1⟩, ⟨_, (O9.N _ (nth_mem (i := 0) rfl)).1⟩, by simp only [Array.size_push]; lia⟩ (K9.less (fun p hp => (ND p hp).1)
    (List.forall_mem_cons.mpr ⟨.inl (.tail _ (.tail _ (.head _))), List.forall_mem_cons.mpr ⟨.inl (.tail _ (.head _)), List.forall_mem_cons.mpr ⟨.inl (.head _), List.forall_mem_cons.mpr ⟨.inr (O9.N _ (nth_mem (i := 3) rfl)).1, List.forall_mem_cons.mpr ⟨.inr (O9.N _ (nth_mem (i := 4) rfl)).1, List.forall_mem_nil _⟩⟩⟩⟩⟩))
structure BankF (w : World) (W : Wd) (ts : List Tm) (ns as rs : Array Value) (h : Heap) : Prop where
  bank : Bank w W ts h
  funs : Funs W h ns as rs
theorem Bank.funs {W : Wd} {w : World} {ts : List Tm} {h h' : Heap} (wok : W.Ok) (B : Bank w W ts h) {ns as rs : Array Value} (Fu : Funs W h ns as rs) (k : Keep [W.fnA, W.faA, W.frA] h h') : Bank w W ts h' := by
  obtain ⟨⟨k1, e1⟩, ⟨k2, e2⟩, ⟨k3, e3⟩, _⟩ := Fu
  obtain ⟨os, as', ss, ds, n1, n2, n3, n4, nes, nep, xs, C⟩ := B.core
  have kk : ∀ (a : Addr) o, a ≠ W.fnA → a ≠ W.faA → a ≠ W.frA → h.get? a = some o → h'.get? a = some o := fun a o a1 a2 a3 e => k a o (List.not_mem_cons_of_ne_of_not_mem a1 (List.not_mem_cons_of_ne_of_not_mem a2 (List.not_mem_cons_of_ne_of_not_mem a3 List.not_mem_nil))) e
  have kb : ∀ a ∈ W.bank, ∀ o, h.get? a = some o → h'.get? a = some o := fun a ha o e => kk a o (wok.fne a ha).1 (wok.fne a ha).2.1 (wok.fne a ha).2.2 e
  have mb7 := @Wd.mem W
  have tk : TupKeep h h' := by
    intro b ob xs n e hc hd
    refine kk b ob ?_ ?_ ?_ e
    · rintro rfl; rw [e1] at e; cases e; exact absurd hc (by simp)
    · rintro rfl; rw [e2] at e; cases e; exact absurd hc (by simp)
    · rintro rfl; rw [e3] at e; cases e; exact absurd hc (by simp)
  exact ⟨kb _ mb7.2.1 _ B.inst, kb _ mb7.1 _ B.dict, ⟨_, _, _, _, _, _, _, _, _, _, _, C.tup tk (kb _ mb7.2.2.1 _ C.ops) (kb _ mb7.2.2.2.1 _ C.args) (kb _ mb7.2.2.2.2.1 _ C.sorts) (kb _ mb7.2.2.2.2.2.1 _ C.datas) (kb _ mb7.2.2.2.2.2.2 _ C.nums)⟩⟩
end
end Mine

open PySem PySem.W PySem.Calls PyProof.Rows
set_option Elab.async false
set_option linter.all false
set_option maxRecDepth 100000
set_option maxHeartbeats 40000000
namespace Mine
structure Tl {S : Type} (Z : S → Heap → Prop) (C : List Addr) : Prop where
  later : ∀ s h h', Z s h → TupKeep h h' → (∀ a ∈ C, ∀ o, h.get? a = some o → h'.get? a = some o) → Z s h'
  ex : ∀ s h, Z s h → ∀ a ∈ C, ∃ o, h.get? a = some o
structure TlD (c : Cx) (Z : Heap → Prop) (C : List Addr) (D : Led) : Prop where
  at_ : ∀ h l m, Own c l m h → (∀ p ∈ D, p ∈ l) → Z h
  has : ∀ a ∈ C, ∃ o, (a, o) ∈ D
inductive Dr (D : Led) (p : Addr × Obj) : Led → Led → Prop
  | here {l X} : Kt D l X → Dr D p (p :: l) X
  | skip {q l X} : Dr D p l X → Dr D p (q :: l) X
  | keep {q l X} : Dr D p l X → Dr D p (q :: l) (q :: X)
theorem Dr.off {D l X : Led} {p : Addr × Obj} (k : Dr D p l X) (n : Nd l) : p ∈ l ∧ (∀ q ∈ D, q.1 ≠ p.1) ∧ ∀ q ∈ X, q.1 ≠ p.1 := by
  induction k with
  | here k =>
    have n' := List.pairwise_cons.mp n
    exact ⟨.head _, fun q hq => (n'.1 q (k.sub.2.1 q hq)).symm, fun q hq => (n'.1 q (k.sub.1 q hq)).symm⟩
  | skip _ ih =>
    obtain ⟨a, b, d⟩ := ih (List.pairwise_cons.mp n).2
    exact ⟨.tail _ a, b, d⟩
  | keep _ ih =>
    have n' := List.pairwise_cons.mp n
    obtain ⟨a, b, d⟩ := ih n'.2
    exact ⟨.tail _ a, b, fun q hq => by
      rcases List.mem_cons.mp hq with rfl | hq
      · exact n'.1 _ a
      · exact d q hq⟩
section
variable {w : World} {c : Cx} {l D X : Led} {m : Mp} {P : Value → Led → Mp → Prop} {N : Nat} {S : Type} {Z : S → Heap → Prop} {σ : S} {C M : List Addr}
theorem TlD.hi {Z : Heap → Prop} (T : TlD c Z C D) {h : Heap} (O : Own c l m h) (s : ∀ p ∈ D, p ∈ l) : ∀ a ∈ C, c.g.get? a = none := fun a ha => let ⟨_, e⟩ := T.has a ha; (O.N _ (s _ e)).2.2
theorem J.tl {t : Sem Value} {Res : Value → S → Prop} (n : Nat) (G : Gc w c) (R : Rm c N) (hN : n ≤ N) (tl : Tl Z C) (T : TlD c (Z σ) C D) (hM : ∀ a ∈ M, a ∈ C) (kt : Kt D l X)
    (h : ∀ {mean mg mb} {dp un : Nat} {fr gd} (_ : Gd w mean mg mb c.g) (_ : Room dp un n) h tk (Q : Value → Shared → Prop), Own c l m h → Z σ h → (∀ a ∈ C, c.g.get? a = none) → (∀ v h' tk' σ', Keep M h h' → Z σ' h' → Res v σ' → Q v (c.st h' tk')) → wpAny (model PR w) (AR dp un fr gd) t Q noE (c.st h tk))
    (k : ∀ v σ' R, Res v σ' → TlD c (Z σ') C R → (∀ p, Dr D p l X → p ∈ R) → P v (X ++ R) m) : J w c l m t P := by
  have s2 := kt.sub.2.1
  refine J.bnd (Res := fun v h' => ∃ σ', Z σ' h' ∧ Res v σ') n G R hN M (fun a ha => T.has a (hM a ha)) kt (fun g r h1 tk Q O ret => h g r h1 tk Q O (T.at_ _ _ _ O s2) (T.hi O s2) fun v h' tk' σ' K z res => ret v h' tk' K ⟨σ', z, res⟩) ?_
  rintro v h0 h' R O K ⟨σ', z, res⟩ bd O'
  have inR : ∀ a ∈ C, ∀ o, h'.get? a = some o → (a, o) ∈ R := fun a ha o e => let ⟨_, hm⟩ := T.has a ha; bd.old kt O hm e
  refine k v σ' R res ⟨fun h2 l2 m2 O2 s => tl.later _ _ _ z (bd.tup O2.F O2.N s) fun a ha o e => (O2.N _ (s _ (inR a ha o e))).1, fun a ha => let ⟨o, e⟩ := tl.ex _ _ z a ha; ⟨o, inR a ha o e⟩⟩ fun p dr => ?_
  obtain ⟨d1, d2, d3⟩ := dr.off O.nd
  obtain ⟨n1, n2, n3⟩ := O.N _ d1
  refine bd.in_ (K _ _ (fun q => ?_) n1) n2 n3 fun q => ?_
  · obtain ⟨o, ho⟩ := T.has _ (hM _ q)
    exact d2 _ ho rfl
  · obtain ⟨q, hq, e⟩ := List.mem_map.mp q
    exact d3 _ hq e
end
set_option genInjectivity false in
set_option genSizeOf false in
structure FS where
  ts : List Tm
  ns : Array Value
  as : Array Value
  rs : Array Value
noncomputable def BnkF (w : World) (W : Wd) (f : FS) (h : Heap) : Prop := Bank w W f.ts h ∧ Funs W h f.ns f.as f.rs
theorem Bank.tell {w : World} {W : Wd} {ts : List Tm} {h h' : Heap} (B : Bank w W ts h) (tk : TupKeep h h') (k : ∀ a ∈ W.bank, ∀ o, h.get? a = some o → h'.get? a = some o) : Bank w W ts h' :=
  have m7 := @Wd.mem W
  B.core.cases fun _ _ _ _ _ _ _ _ _ _ _ C => ⟨k _ m7.2.1 _ B.inst, k _ m7.1 _ B.dict, ⟨_, _, _, _, _, _, _, _, _, _, _, C.tup tk (k _ m7.2.2.1 _ C.ops) (k _ m7.2.2.2.1 _ C.args) (k _ m7.2.2.2.2.1 _ C.sorts) (k _ m7.2.2.2.2.2.1 _ C.datas) (k _ m7.2.2.2.2.2.2 _ C.nums)⟩⟩
theorem Bank.ex {w : World} {W : Wd} {ts : List Tm} {h : Heap} (B : Bank w W ts h) : ∀ a ∈ W.bank, ∃ o, h.get? a = some o :=
  B.core.cases fun _ _ _ _ _ _ _ _ _ _ _ C => List.forall_mem_cons.mpr ⟨⟨_, B.dict⟩, List.forall_mem_cons.mpr ⟨⟨_, B.inst⟩, List.forall_mem_cons.mpr ⟨⟨_, C.ops⟩, List.forall_mem_cons.mpr ⟨⟨_, C.args⟩, List.forall_mem_cons.mpr ⟨⟨_, C.sorts⟩, List.forall_mem_cons.mpr ⟨⟨_, C.datas⟩, List.forall_mem_cons.mpr ⟨⟨_, C.nums⟩, List.forall_mem_nil _⟩⟩⟩⟩⟩⟩⟩
theorem Funs.tell {W : Wd} {h h' : Heap} {ns as rs : Array Value} (F : Funs W h ns as rs) (k : ∀ a ∈ W.fun3, ∀ o, h.get? a = some o → h'.get? a = some o) : Funs W h' ns as rs :=
  let ⟨⟨_, e1⟩, ⟨_, e2⟩, ⟨_, e3⟩, z⟩ := F
  ⟨⟨_, k _ (.head _) _ e1⟩, ⟨_, k _ (.tail _ (.head _)) _ e2⟩, ⟨_, k _ (.tail _ (.tail _ (.head _))) _ e3⟩, z⟩
theorem Funs.ex {W : Wd} {h : Heap} {ns as rs : Array Value} (F : Funs W h ns as rs) : ∀ a ∈ W.fun3, ∃ o, h.get? a = some o :=
  let ⟨⟨_, e1⟩, ⟨_, e2⟩, ⟨_, e3⟩, _⟩ := F
  List.forall_mem_cons.mpr ⟨⟨_, e1⟩, List.forall_mem_cons.mpr ⟨⟨_, e2⟩, List.forall_mem_cons.mpr ⟨⟨_, e3⟩, List.forall_mem_nil _⟩⟩⟩
theorem bnkF_tl {w : World} {W : Wd} : Tl (BnkF w W) (W.bank ++ W.fun3) :=
  ⟨fun _ _ _ z tk k => ⟨z.1.tell tk fun a h => k a (List.mem_append_left _ h), z.2.tell fun a h => k a (List.mem_append_right _ h)⟩, fun _ _ z a h => (List.mem_append.mp h).elim (z.1.ex a) (z.2.ex a)⟩
theorem Wd.Ok.core3 {W : Wd} (k : W.Ok) : ∀ a ∈ W.fun3, a ∉ W.core :=
  let f := k.funs
  List.forall_mem_cons.mpr ⟨k.low (Nat.lt_trans (Nat.lt_trans f.2.2.1 f.2.2.2.1) f.2.2.2.2), List.forall_mem_cons.mpr ⟨k.low (Nat.lt_trans f.2.2.2.1 f.2.2.2.2), List.forall_mem_cons.mpr ⟨k.low f.2.2.2.2, List.forall_mem_nil _⟩⟩⟩
theorem BnkF.core {w : World} {W : Wd} {f : FS} {ts' : List Tm} {h h' : Heap} (wok : W.Ok) (z : BnkF w W f h) (K : Keep W.core h h') (C : Core w W ts' h') : BnkF w W ⟨ts', f.ns, f.as, f.rs⟩ h' :=
  ⟨⟨K _ _ wok.bN z.1.inst, K _ _ wok.dN z.1.dict, C⟩, z.2.tell fun a h o e => K _ _ (wok.core3 a h) e⟩
section
variable {w : World} {c : Cx} {l D X : Led} {m : Mp} {P : Value → Led → Mp → Prop} {N : Nat} {W : Wd} {f : FS}
theorem J.declF {name : Str} {t1 t2 : Tok} {aT : Addr} {items : Array Value} {so : Int} (G : Gc w c) (R : Rm c N) (wok : W.Ok) (T : TlD c (BnkF w W f) (W.bank ++ W.fun3) D) (kt : Kt D l X) (hT : ∀ h, Own c l m h → IsTup h aT items) (hsz : f.ns.size ≤ 9)
    (k : ∀ tk R, TlD c (BnkF w W ⟨f.ts, f.ns.push (.str name t1), f.as.push (.ref aT), f.rs.push (.int so t2)⟩) (W.bank ++ W.fun3) R → (∀ p, Dr D p l X → p ∈ R) → P (.int (f.ns.size : Int) tk) (X ++ R) m) (hN : autoParam (6 ≤ N) Mine.aT2._auto_1) : J w c l m (PySem.call (.ref 179) [.ref W.bA, .str name t1, .ref aT, .int so t2]) P := by
  refine J.tl (M := W.fun3) (Res := fun v σ => ∃ tk, v = .int (f.ns.size : Int) tk ∧ σ = ⟨f.ts, f.ns.push (.str name t1), f.as.push (.ref aT), f.rs.push (.int so t2)⟩) 6 G R hN bnkF_tl T (fun a h => List.mem_append_right _ h) kt
    (fun g r h tk Q O z hi ret => declare_fn g O.F.keep r W wok z.1 hi z.2 name t1 t2 aT items so (hT h O) hsz fun tk h' tk' F' K => ret _ _ _ ⟨f.ts, f.ns.push (.str name t1), f.as.push (.ref aT), f.rs.push (.int so t2)⟩ K ⟨z.1.funs wok z.2 K, F'⟩ ⟨tk, rfl, rfl⟩) ?_
  rintro v σ' R' ⟨tk, rfl, rfl⟩ T' dr
  exact k tk R' T' dr
theorem J.makeF {t : Tm} {aT : Addr} {dV : Value} {t1 t2 : Tok} (G : Gc w c) (R : Rm c N) (wok : W.Ok) (T : TlD c (BnkF w W f) (W.bank ++ W.fun3) D) (kt : Kt D l X) (wf : t.wf) (Ag : ∀ h, Own c l m h → IsTupleKey (PySem.intKind PR w) h t.args aT) (Dg : ∀ h, Own c l m h → IsDt PR w h t.data dV) (hz : f.ts.length ≤ 900)
    (k : ∀ (k : Nat) tk ts' R, Mk f.ts t ts' k → TlD c (BnkF w W ⟨ts', f.ns, f.as, f.rs⟩) (W.bank ++ W.fun3) R → (∀ p, Dr D p l X → p ∈ R) → P (.int (k : Int) tk) (X ++ R) m) (hN : autoParam (3 ≤ N) Mine.aT2._auto_1) : J w c l m (PySem.call (.ref 270) [.ref W.bA, .str t.op t1, .ref aT, .int t.sort t2, dV]) P := by
  refine J.tl (M := W.core) (Res := fun v σ => ∃ (k : Nat) (tk : Tok) (ts' : List Tm), v = .int (k : Int) tk ∧ Mk f.ts t ts' k ∧ σ = ⟨ts', f.ns, f.as, f.rs⟩) 3 G R hN bnkF_tl T (fun a h => List.mem_append_left _ (Wd.core_bank a h)) kt
    (fun g r h tk Q O z hi ret => make_fn g O.F.keep r W wok z.1.inst z.1.dict z.1.core (fun a h => hi a (List.mem_append_left _ h)) rfl rfl rfl rfl rfl t wf t1 t2 aT dV (Ag h O) (Dg h O) hz fun k tk h' tk' ts' M K C => ret _ _ _ _ K (z.core wok K C) ⟨k, tk, ts', rfl, M, rfl⟩) ?_
  rintro v σ' R' ⟨k', tk, ts', rfl, M, rfl⟩ T' dr
  exact k k' tk ts' R' M T' dr
end
noncomputable abbrev led10 (w : World) (W : Wd) (f : FS) (os as ss ds : Array Value) (n1 n2 n3 n4 : Nat) (es : List DictEntry) (ep k1 k2 k3 : Nat) : Led :=
  [(W.frA, lsO f.rs k3), (W.faA, lsO f.as k2), (W.fnA, lsO f.ns k1), (W.dA, dictOf (bankEs w W) 14), (W.bA, instObj 656 W.dA), (W.oA, lsO os n1), (W.aA, lsO as n2), (W.soA, lsO ss n3), (W.daA, lsO ds n4), (W.nA, dictOf es ep)]
theorem BnkF.open {w : World} {W : Wd} {f : FS} {h hb : Heap} (wok : W.Ok) (Z : BnkF w W f h) (hhi : ∀ a ∈ W.bank ++ W.fun3, hb.get? a = none) {P : Prop}
    (k : ∀ os as ss ds n1 n2 n3 n4 es ep k1 k2 k3, (∀ p ∈ led10 w W f os as ss ds n1 n2 n3 n4 es ep k1 k2 k3, h.get? p.1 = some p.2 ∧ hb.get? p.1 = none) → Nd (led10 w W f os as ss ds n1 n2 n3 n4 es ep k1 k2 k3) → (∀ p ∈ led10 w W f os as ss ds n1 n2 n3 n4 es ep k1 k2 k3, p.2.cls ≠ .type "tuple") →
      (∀ c : Cx, TupKeep h c.g → TlD c (BnkF w W f) (W.bank ++ W.fun3) (led10 w W f os as ss ds n1 n2 n3 n4 es ep k1 k2 k3)) → P) : P := by
  obtain ⟨B, ⟨k1, e1⟩, ⟨k2, e2⟩, ⟨k3, e3⟩, z⟩ := Z
  refine B.core.cases fun os as ss ds n1 n2 n3 n4 es ep xs C => ?_
  have fh : ∀ a ∈ W.fun3, hb.get? a = none := fun a h => hhi a (List.mem_append_right _ h)
  have o := wok.funs
  refine k os as ss ds n1 n2 n3 n4 es ep k1 k2 k3 (List.forall_mem_cons.mpr ⟨⟨e3, fh _ (.tail _ (.tail _ (.head _)))⟩, List.forall_mem_cons.mpr ⟨⟨e2, fh _ (.tail _ (.head _))⟩, List.forall_mem_cons.mpr ⟨⟨e1, fh _ (.head _)⟩, Bank.ND wok B (fun a h => hhi a (List.mem_append_left _ h)) C⟩⟩⟩) ?_
    (List.forall_mem_cons.mpr ⟨by simp, List.forall_mem_cons.mpr ⟨by simp, List.forall_mem_cons.mpr ⟨by simp, noT7⟩⟩⟩) fun c tk => ?_
  · have fne : ∀ p ∈ led7 w W os as ss ds n1 n2 n3 n4 es ep, p.1 ≠ W.fnA ∧ p.1 ≠ W.faA ∧ p.1 ≠ W.frA := fun p hp => wok.fne p.1 (List.mem_map_of_mem (f := Prod.fst) hp)
    exact List.pairwise_cons.mpr ⟨List.forall_mem_cons.mpr ⟨(Nat.ne_of_lt o.2.2.2.1).symm, List.forall_mem_cons.mpr ⟨(Nat.ne_of_lt (Nat.lt_trans o.2.2.1 o.2.2.2.1)).symm, fun p hp => (fne p hp).2.2.symm⟩⟩,
      List.pairwise_cons.mpr ⟨List.forall_mem_cons.mpr ⟨(Nat.ne_of_lt o.2.2.1).symm, fun p hp => (fne p hp).2.1.symm⟩, List.pairwise_cons.mpr ⟨fun p hp => (fne p hp).1.symm, wok.nd⟩⟩⟩
  · have bk := (bkD C tk).sub (q := (W.fnA, lsO f.ns k1)) |>.sub (q := (W.faA, lsO f.as k2)) |>.sub (q := (W.frA, lsO f.rs k3))
    refine ⟨fun h l m O s => ⟨bk.at_ h l m O s, ⟨⟨_, (O.N _ (s _ (.tail _ (.tail _ (.head _))))).1⟩, ⟨_, (O.N _ (s _ (.tail _ (.head _)))).1⟩, ⟨_, (O.N _ (s _ (.head _))).1⟩, z⟩⟩, fun a ha => ?_⟩
    rcases List.mem_append.mp ha with ha | ha
    · exact bk.has a ha
    · exact (List.forall_mem_cons.mpr ⟨⟨_, .tail _ (.tail _ (.head _))⟩, List.forall_mem_cons.mpr ⟨⟨_, .tail _ (.head _)⟩, List.forall_mem_cons.mpr ⟨⟨_, .head _⟩, List.forall_mem_nil _⟩⟩⟩ : ∀ a ∈ W.fun3, ∃ o, (a, o) ∈ led10 w W f os as ss ds n1 n2 n3 n4 es ep k1 k2 k3) a ha
theorem TlD.bk {w : World} {c : Cx} {W : Wd} {f : FS} {D : Led} (T : TlD c (BnkF w W f) (W.bank ++ W.fun3) D) : BkD w c W f.ts D := ⟨fun h l m O s => (T.at_ h l m O s).1, fun _ _ _ O s a ha => T.hi O s a (List.mem_append_left _ ha), fun a ha => T.has a (List.mem_append_left _ ha)⟩
theorem led10_mem {w : World} {W : Wd} {f : FS} {os as ss ds : Array Value} {n1 n2 n3 n4 : Nat} {es : List DictEntry} {ep k1 k2 k3 : Nat} : ∀ p ∈ led10 w W f os as ss ds n1 n2 n3 n4 es ep k1 k2 k3, p.1 ∈ W.bank ++ W.fun3 :=
  List.forall_mem_cons.mpr ⟨List.mem_append_right _ (.tail _ (.tail _ (.head _))), List.forall_mem_cons.mpr ⟨List.mem_append_right _ (.tail _ (.head _)), List.forall_mem_cons.mpr ⟨List.mem_append_right _ (.head _), fun _ hp => List.mem_append_left _ (List.mem_map_of_mem (f := Prod.fst) hp)⟩⟩⟩
theorem BnkF.less {w : World} {W : Wd} {f f' : FS} {os as ss ds : Array Value} {n1 n2 n3 n4 : Nat} {es : List DictEntry} {ep k1 k2 k3 : Nat} {h' : Heap} (z : BnkF w W f' h') : ∀ p ∈ led10 w W f os as ss ds n1 n2 n3 n4 es ep k1 k2 k3, p.1 ∈ W.core ++ W.fun3 ∨ h'.get? p.1 = some p.2 :=
  have mc := @Wd.memC W
  List.forall_mem_cons.mpr ⟨.inl (List.mem_append_right _ (.tail _ (.tail _ (.head _)))), List.forall_mem_cons.mpr ⟨.inl (List.mem_append_right _ (.tail _ (.head _))), List.forall_mem_cons.mpr ⟨.inl (List.mem_append_right _ (.head _)),
    all7 (.inr z.1.dict) (.inr z.1.inst) (.inl (List.mem_append_left _ mc.1)) (.inl (List.mem_append_left _ mc.2.1)) (.inl (List.mem_append_left _ mc.2.2.1)) (.inl (List.mem_append_left _ mc.2.2.2.1)) (.inl (List.mem_append_left _ mc.2.2.2.2))⟩⟩⟩
end Mine

open PySem PySem.W PySem.Calls PyProof.Rows
set_option Elab.async false
set_option linter.all false
set_option maxRecDepth 100000
set_option maxHeartbeats 40000000
namespace Mine
section
variable {w : World} {mean : ExcName → Option Value} {mg mb : Str → Option Value} {dp un : Nat} {fr : Option (List Env)} {gd : Option (List Code)} {s : Shared} {E : Value → Shared → Prop} {Q : Value → Shared → Prop} {hb : Heap}
theorem fresh_fn (G : Gd w mean mg mb hb) (kp : ∀ b o, hb.get? b = some o → s.heap.get? b = some o) (R : Room dp un 10) (W : Wd) (wok : W.Ok) {f : FS} (Z : BnkF w W f s.heap) (hhi : ∀ a ∈ W.bank ++ W.fun3, hb.get? a = none) (name : Str) (t1 t2 : Tok) (so : Int) (hsz : f.ns.size ≤ 9) (hz : f.ts.length ≤ 900)
    (hret : ∀ (k : Nat) bT tk h' tk' ts', Mk f.ts ⟨(Str.ofString "app"), [], so, .i f.ns.size⟩ ts' k → BnkF w W ⟨ts', f.ns.push (.str name t1), f.as.push (.ref bT), f.rs.push (.int so t2)⟩ h' → Keep (W.core ++ W.fun3) s.heap h' → Q (.int (k : Int) tk) { s with heap := h', toks := tk' }) :
    wpAny (model PySem.Challenge.rw_sj0101_01.row.prog w) (AR dp un fr gd) (call (.ref 193) [.ref W.bA, .str name t1, .int so t2]) Q E s := by
  have X₀ := G.X
  revert X₀
  k_fill
  intro X₀
  clear X₀
  refine Z.open wok hhi fun os as ss ds n1 n2 n3 n4 nes nep k1 k2 k3 ND nd noT T => ?_
  refine call_J (n := 9) _ [((Str.ofString "self"), .ref W.bA), ((Str.ofString "name"), .str name t1), ((Str.ofString "s"), .int so t2)] R G kp ND nd ?_
  intro c G R he en
  have T := T c (en.tup ND noT)
  dsimp only [List.reverse, List.reverseAux]
  k_with "fresh_MFun2" => ((with_reducible refine (?_ : J _ _ _ _ (PySem.call (.ref 179) _) _)); refine J.declF (items := #[]) G R wok T (.drop (.drop .nil)) (fun h O => ⟨_, O.N.get (.head _), rfl, _, rfl⟩) hsz ?_; intro tk9 R9 T9 dr9; have m9 := dr9 _ (.skip (.here .nil)); clear dr9)
  k_with "fresh_MFun2" => ((with_reducible refine (?_ : J _ _ _ _ (PySem.call (.ref 270) _) _)); rename TlD _ _ _ _ => T9; refine J.makeF (t := ⟨(Str.ofString "app"), [], so, .i f.ns.size⟩) G R wok T9 .nil (wf_i (by decide)) (fun h O => items_int (O.N.get (by assumption)) .nil) (fun h O => ⟨_, rfl⟩) hz ?_; intro k8 tk8 ts8 R8 M8 T8 dr8)
  repeat' (first | k_extra "fresh_MFun2" | k_extra "j")
  intro h9 tk9 O9 K9
  have z9 := (by assumption : TlD c _ _ R8).at_ _ _ _ O9 fun _ h => h
  exact hret _ _ _ _ _ _ M8 z9 (K9.less (fun p hp => (ND p hp).1) z9.less)
end
end Mine

open PySem PySem.W PySem.Calls PyProof.Rows
set_option Elab.async false
set_option linter.all false
set_option maxRecDepth 100000
set_option maxHeartbeats 40000000
namespace Mine
open PySem.F
section
variable {prog : Program} {w : World} {A : Around} {E : Value → Shared → Prop} {s : Shared}
theorem nextOf_tup {it t : Addr} {i : Nat} {items : Array Value} {x : Value} {Q : Value → Shared → Prop} (hit : s.heap.IsTupleIter it t i) (ht : s.heap.IsTuple t items) (hx : items[i]? = some x)
    (hQ : ∀ h', h'.IsTupleIter it t (i + 1) → Heap.SameBut it s.heap h' → Q x { s with heap := h' }) : wpAny (model prog w) A (Builtin.SmallTypes.nextOf (.ref it)) Q E s := by
  obtain ⟨o, e1, e2, e3⟩ := id hit
  obtain ⟨q, f1, _, n, f2⟩ := ht
  unfold Builtin.SmallTypes.nextOf
  refine wpAny_bind (wpAny_callSpecial?_slot (name := Str.ofString "__next__") hit.typeIs F.slot_tuple_iterator_next (wpAny_call_entry F.slot_tuple_iterator_next hit.typeIs F.entry_tuple_iterator_next ?_ (F.args_tuple_iterator_next_1 _)))
  show wpAny _ _ (field (.ref it) 0 >>= _) _ _ s
  refine wpAny_bind (wpAny_field e1 e3 (x := .ref t) rfl ?_)
  show wpAny _ _ (if (Value.ref t == Value.none) = true then _ else _) _ _ s
  rw [if_neg (show ¬ ((Value.ref t == Value.none) = true) from Bool.false_ne_true)]
  show wpAny _ _ (field (.ref it) 1 >>= _) _ _ s
  refine wpAny_bind (wpAny_field e1 e3 (x := .int i 0) rfl ?_)
  refine wpAny_bind (wpAny_seqItems f1 f2 ?_)
  simp only [Int.toNat_natCast, hx]
  refine wpAny_bind (wpAny_setField e1 e3 (by simp) (wpAny_pure ⟨x, rfl, wpAny_pure (hQ _ ⟨_, Heap.get?_update_self _ e1 (Obj.isFreed_of_fields (Obj.data_mapFields e3 _)), (Obj.cls_mapFields ..).trans e2, ?_⟩ (Heap.SameBut.update ..))⟩))
  rw [Obj.data_mapFields e3]; simp [rawInt]
theorem zipT_item {z TI TO i1 i2 l1 l2 : Addr} {xs ys : Array Value} {x y a b : Value} {Q : Value → Shared → Prop} (D : ZipApart z TI TO i1 i2 l1 l2)
    (hz : IsZip s.heap z TI TO .none) (hTI : IsPair s.heap TI (.ref i1) (.ref i2)) (hTO : IsPair s.heap TO a b) (h1 : s.heap.IsListIter i1 l1 0) (h2 : s.heap.IsTupleIter i2 l2 0) (hl1 : s.heap.IsList l1 xs) (hl2 : s.heap.IsTuple l2 ys) (hx : xs[0]? = some x) (hy : ys[0]? = some y)
    (hQ : ∀ h', IsZip h' z TI TO (rawInt s.heap.objs.size) → IsPair h' TO x y → h'.IsListIter i1 l1 1 → h'.IsTupleIter i2 l2 1 → IsPair h' s.heap.objs.size x y →
      (∀ c o, c ≠ z → c ≠ TO → c ≠ i1 → c ≠ i2 → s.heap.get? c = some o → h'.get? c = some o) → Q (.ref s.heap.objs.size) { s with heap := h' }) :
    wpAny (model prog w) A (Builtin.«zip.__next__» ⟨[.ref z], []⟩) (fun fin s' => ∃ v, fin = .done (.ret v) ∧ Q v s') E s := by
  show wpAny _ _ (field (.ref z) 2 >>= _) _ _ _
  refine wpAny_bind (wpAny_field hz rfl (x := .bool false) rfl ?_)
  show wpAny _ _ (field (.ref z) 3 >>= _) _ _ _
  refine wpAny_bind (wpAny_field hz rfl (x := .ref TI) rfl ?_)
  refine wpAny_bind (wpAny_seqItems hTI rfl ?_)
  show wpAny _ _ (Builtin.SmallTypes.ownedTupleIsFree (.ref z) >>= _) _ _ _
  refine wpAny_bind ?_
  unfold Builtin.SmallTypes.ownedTupleIsFree
  refine wpAny_bind (wpAny_field hz rfl (x := .none) rfl (wpAny_pure ?_))
  simp only [if_true]
  refine wpAny_bind (wpAny_rule (wpAny_bind (wpAny_field hz rfl (x := .ref TO) rfl (wpAny_bind (wpAny_setField_rec hz (by simp) fun p1 z1 s1 => ?_)))))
  replace z1 : IsZip p1 z TI TO .ellipsis := z1
  refine wpAny_bind ?_
  simp only [List.zipIdx_cons, List.zipIdx_nil, List.forIn_cons, List.forIn_nil]
  refine wpAny_bind (wpAny_bind (wpAny_onRaise ?_))
  show wpAny _ _ (Builtin.SmallTypes.nextOf (.ref i1) >>= _) _ _ _
  refine wpAny_bind (wpAny_nextOf_list_item (h1.extBut s1.extBut D.i1z) (hl1.extBut s1.extBut D.l1z) hx fun p2 n2 s2 => wpAny_pure ?_)
  have t2 : IsPair p2 TO a b := s2.extBut _ _ D.TOi1 (s1.extBut _ _ D.TOz hTO)
  refine wpAny_bind (wpAny_seqItems t2 rfl (wpAny_bind (wpAny_updateSeq_pair t2 fun p3 t3 s3 => ?_)))
  replace t3 : IsPair p3 TO x b := t3
  refine wpAny_bind (wpAny_letGo (wpAny_pure (wpAny_bind (wpAny_bind (wpAny_onRaise ?_)))))
  show wpAny _ _ (Builtin.SmallTypes.nextOf (.ref i2) >>= _) _ _ _
  refine wpAny_bind (nextOf_tup (((h2.extBut s1.extBut D.i2z).extBut s2.extBut D.i12.symm).extBut s3.extBut D.TOi2.symm) (((hl2.extBut s1.extBut D.l2z).extBut s2.extBut D.l2i1).extBut s3.extBut D.l2TO) hy fun p4 n4 s4 => wpAny_pure ?_)
  have t4 : IsPair p4 TO x b := s4.extBut _ _ D.TOi2 t3
  refine wpAny_bind (wpAny_seqItems t4 rfl (wpAny_bind (wpAny_updateSeq_pair t4 fun p5 t5 s5 => ?_)))
  replace t5 : IsPair p5 TO x y := t5
  refine wpAny_bind (wpAny_letGo (wpAny_pure (wpAny_pure (wpAny_bind (wpAny_seqItems t5 rfl (wpAny_bind (wpAny_newTuple ?_)))))))
  have hsz : p5.objs.size = s.heap.objs.size := by rw [s5.1, s4.1, s3.1, s2.1, s1.1]
  have z5 : IsZip p5 z TI TO .ellipsis := s5.extBut _ _ D.TOz.symm (s4.extBut _ _ D.i2z.symm (s3.extBut _ _ D.TOz.symm (s2.extBut _ _ D.i1z.symm z1)))
  have k5 : ∀ c o, c ≠ z → c ≠ TO → c ≠ i1 → c ≠ i2 → s.heap.get? c = some o → p5.get? c = some o := fun c o c1 c2 c3 c4 e => s5.extBut _ _ c2 (s4.extBut _ _ c4 (s3.extBut _ _ c2 (s2.extBut _ _ c3 (s1.extBut _ _ c1 e))))
  have m1 : p5.IsListIter i1 l1 1 := ((n2.extBut s3.extBut D.TOi1.symm).extBut s4.extBut D.i12).extBut s5.extBut D.TOi1.symm
  have m2 : p5.IsTupleIter i2 l2 1 := n4.extBut s5.extBut D.TOi2.symm
  show wpAny _ _ (Builtin.SmallTypes.ownedTupleHandOut (.ref z) (.ref p5.objs.size) >>= _) _ _ _
  refine wpAny_bind ?_
  unfold Builtin.SmallTypes.ownedTupleHandOut
  have z6 : IsZip (p5.push { cls := .type "tuple", data := .seq #[x, y] }) z TI TO .ellipsis := Heap.get?_push_of_some _ z5
  refine wpAny_bind (wpAny_setField_rec z6 (by simp) fun p7 z7 s7 => ?_)
  replace z7 : IsZip p7 z TI TO (rawInt p5.objs.size) := z7
  refine wpAny_setField_rec z7 (by simp) fun p8 z8 s8 => ?_
  replace z8 : IsZip p8 z TI TO (rawInt p5.objs.size) := z8
  have up : ∀ c o, c ≠ z → p5.get? c = some o → p8.get? c = some o := fun c o c1 e => s8.extBut _ _ c1 (s7.extBut _ _ c1 (Heap.get?_push_of_some _ e))
  have nz : p5.objs.size ≠ z := Nat.ne_of_gt (Heap.lt_size z5)
  have T8 : IsPair p8 p5.objs.size x y := s8.extBut _ _ nz (s7.extBut _ _ nz (Heap.get?_push_size _ rfl))
  rw [hsz] at z8 T8
  refine wpAny_pure ⟨_, rfl, ?_⟩
  show Q (.ref p5.objs.size) _
  rw [hsz]
  exact hQ p8 z8 (up _ _ D.TOz t5) (let ⟨o, h, r⟩ := m1; ⟨o, up _ o D.i1z h, r⟩) (let ⟨o, h, r⟩ := m2; ⟨o, up _ o D.i2z h, r⟩) T8 fun c o c1 c2 c3 c4 e => up c o c1 (k5 c o c1 c2 c3 c4 e)
theorem zipT_end {z TI TO i1 i2 l1 : Addr} {k1 : Nat} {xs : Array Value} {Q : Fin → Shared → Prop} (hh : A.handled = none) (n1 : i1 ≠ z) (n2 : l1 ≠ z)
    (hz : IsZip s.heap z TI TO .none) (hTI : IsPair s.heap TI (.ref i1) (.ref i2)) (h1 : s.heap.IsListIter i1 l1 k1) (hl1 : s.heap.IsList l1 xs) (hx : xs[k1]? = none)
    (hE : ∀ h' e, (∀ c o, c ≠ z → c ≠ i1 → s.heap.get? c = some o → h'.get? c = some o) → (∃ o, h'.get? e = some o ∧ o.cls = .type "StopIteration") → E (.ref e) { s with heap := h' }) :
    wpAny (model prog w) A (Builtin.«zip.__next__» ⟨[.ref z], []⟩) Q E s := by
  show wpAny _ _ (field (.ref z) 2 >>= _) _ _ _
  refine wpAny_bind (wpAny_field hz rfl (x := .bool false) rfl ?_)
  show wpAny _ _ (field (.ref z) 3 >>= _) _ _ _
  refine wpAny_bind (wpAny_field hz rfl (x := .ref TI) rfl ?_)
  refine wpAny_bind (wpAny_seqItems hTI rfl ?_)
  show wpAny _ _ (Builtin.SmallTypes.ownedTupleIsFree (.ref z) >>= _) _ _ _
  refine wpAny_bind ?_
  unfold Builtin.SmallTypes.ownedTupleIsFree
  refine wpAny_bind (wpAny_field hz rfl (x := .none) rfl (wpAny_pure ?_))
  simp only [if_true]
  refine wpAny_bind (wpAny_rule (wpAny_bind (wpAny_field hz rfl (x := .ref TO) rfl (wpAny_bind (wpAny_setField_rec hz (by simp) fun p1 z1 s1 => ?_)))))
  replace z1 : IsZip p1 z TI TO .ellipsis := z1
  refine wpAny_bind ?_
  simp only [List.zipIdx_cons, List.zipIdx_nil, List.forIn_cons, List.forIn_nil]
  refine wpAny_bind (wpAny_bind (wpAny_onRaise ?_))
  show wpAny _ _ (Builtin.SmallTypes.nextOf (.ref i1) >>= _) _ _ _
  refine wpAny_bind (wpAny_nextOf_list_end hh (h1.extBut s1.extBut n1) (hl1.extBut s1.extBut n2) hx fun p2 e s2 he => ?_)
  obtain ⟨oe, e1, e2⟩ := he
  have z2 : IsZip p2 z TI TO .ellipsis := s2 _ _ n1.symm z1
  have ez : e ≠ z := fun q => by subst q; rw [z2] at e1; cases e1; simp at e2
  exact wpAny_setField_rec z2 (by simp) fun p3 _ s3 => hE p3 e (fun c o c1 c3 q => s3.extBut _ _ c1 (s2 _ _ c3 (s1.extBut _ _ c1 q))) ⟨oe, s3.extBut _ _ ez e1, e2⟩
noncomputable abbrev zT1 (h : Heap) (l1 : Addr) : Heap := h.push { cls := .type "list_iterator", data := .fields #[.ref l1, .int 0 0] }
noncomputable abbrev zT2 (h : Heap) (l1 l2 : Addr) : Heap := (zT1 h l1).push { cls := .type "tuple_iterator", data := .fields #[.ref l2, .int 0 0] }
noncomputable abbrev zT3 (h : Heap) (l1 l2 : Addr) : Heap := (zT2 h l1 l2).push { cls := .type "tuple", data := .seq #[.ref h.objs.size, .ref (zT1 h l1).objs.size] }
noncomputable abbrev zT4 (h : Heap) (l1 l2 : Addr) : Heap := (zT3 h l1 l2).push { cls := .type "tuple", data := .seq #[.none, .none] }
noncomputable abbrev zT5 (h : Heap) (l1 l2 : Addr) : Heap := (zT4 h l1 l2).push { cls := .type "zip", data := .fields #[.none, .bool false, .bool false, .ref (zT2 h l1 l2).objs.size, .ref (zT3 h l1 l2).objs.size] }
theorem zipT_new (l1 l2 : Addr) (xs ys : Array Value) :
    Meets (Builtin.«zip.__new__» ⟨[.type "zip", .ref l1, .ref l2], []⟩) (fun _ R s => s.heap.IsList l1 xs ∧ s.heap.IsTuple l2 ys ∧
      R (.ok (.ret (.ref (zT4 s.heap l1 l2).objs.size))) { s with heap := zT5 s.heap l1 l2 }) :=
  .of_wp fun prog w A R s h => by
    obtain ⟨hp, g, d, tk, os⟩ := s; obtain ⟨hl1, hl2, h⟩ := h
    have hsub := sub_zip
    have q1 : Heap.IsList (Shared.heap ⟨hp, g, d, tk, os⟩) l1 xs := hl1
    have q2 : Heap.IsTuple (Shared.heap ⟨hp.push { cls := .type "list_iterator", data := .fields #[.ref l1, .int 0 0] }, g, d, tk, os⟩) l2 ys := Heap.IsTuple.push hl2 _
    wp_walk using wpAny_pyIter_list q1, wpAny_pyIter_tuple q2
    exact ⟨_, rfl, h⟩
theorem push_at {h : Heap} {n : Nat} {o : Obj} (e : h.objs.size = n) (f : o.isFreed = false) : (h.push o).get? n = some o := by
  subst e; exact Heap.get?_push_size _ f
theorem call_zipT {l1 l2 : Addr} {xs ys : Array Value} {Q : Value → Shared → Prop} (hl1 : s.heap.IsList l1 xs) (hl2 : s.heap.IsTuple l2 ys)
    (h : ∀ h', IsZip h' (s.heap.objs.size + 4) (s.heap.objs.size + 2) (s.heap.objs.size + 3) .none → IsPair h' (s.heap.objs.size + 2) (.ref s.heap.objs.size) (.ref (s.heap.objs.size + 1)) →
      IsPair h' (s.heap.objs.size + 3) .none .none → h'.IsListIter s.heap.objs.size l1 0 → h'.IsTupleIter (s.heap.objs.size + 1) l2 0 →
      (∀ c o, s.heap.get? c = some o → h'.get? c = some o) → Q (.ref (s.heap.objs.size + 4)) { s with heap := h' }) :
    wpAny (model prog w) A (call (.type "zip") [.ref l1, .ref l2]) Q E s := by
  refine callType_new F.called_zip (by decide) (F.typeCall_zip_2 _ _) (F.newCall_zip_2 _ _) (fun obj => F.args_object_init_3 obj _ _) F.entry_zip_new (zipT_new l1 l2 xs ys) ⟨hl1, hl2, ?_⟩
  have z1 : (zT1 s.heap l1).objs.size = s.heap.objs.size + 1 := Heap.size_push ..
  have z2 : (zT2 s.heap l1 l2).objs.size = s.heap.objs.size + 2 := by rw [Heap.size_push, z1]
  have z3 : (zT3 s.heap l1 l2).objs.size = s.heap.objs.size + 3 := by rw [Heap.size_push, z2]
  have z4 : (zT4 s.heap l1 l2).objs.size = s.heap.objs.size + 4 := by rw [Heap.size_push, z3]
  have g5 : (zT5 s.heap l1 l2).get? (s.heap.objs.size + 4) = some _ := push_at z4 rfl
  have g4 : (zT5 s.heap l1 l2).get? (s.heap.objs.size + 3) = some _ := Heap.get?_push_of_some _ (push_at z3 rfl)
  have g3 : (zT5 s.heap l1 l2).get? (s.heap.objs.size + 2) = some _ := Heap.get?_push_of_some _ (Heap.get?_push_of_some _ (push_at z2 rfl))
  have g2 : (zT5 s.heap l1 l2).get? (s.heap.objs.size + 1) = some _ := Heap.get?_push_of_some _ (Heap.get?_push_of_some _ (Heap.get?_push_of_some _ (push_at z1 rfl)))
  have g1 : (zT5 s.heap l1 l2).get? s.heap.objs.size = some _ := Heap.get?_push_of_some _ (Heap.get?_push_of_some _ (Heap.get?_push_of_some _ (Heap.get?_push_of_some _ (Heap.get?_push_size _ rfl))))
  show _ ∧ _
  rw [z2, z3] at g5
  rw [z1] at g3
  rw [z4]
  exact ⟨⟨_, g5, rfl⟩, h _ g5 g3 g4 ⟨_, g1, rfl, rfl⟩ ⟨_, g2, rfl, rfl⟩ fun c o q => Heap.get?_push_of_some _ (Heap.get?_push_of_some _ (Heap.get?_push_of_some _ (Heap.get?_push_of_some _ (Heap.get?_push_of_some _ q))))⟩
theorem lit_k {h h' : Heap} {i l : Addr} {n : Nat} (x : h.IsListIter i l n) (k : ∀ o, h.get? i = some o → h'.get? i = some o) : h'.IsListIter i l n :=
  x.elim fun o q => ⟨o, k o q.1, q.2⟩
theorem tit_k {h h' : Heap} {i l : Addr} {n : Nat} (x : h.IsTupleIter i l n) (k : ∀ o, h.get? i = some o → h'.get? i = some o) : h'.IsTupleIter i l n :=
  x.elim fun o q => ⟨o, k o q.1, q.2⟩
theorem ls_k {h h' : Heap} {i : Addr} {xs : Array Value} (x : h.IsList i xs) (k : ∀ o, h.get? i = some o → h'.get? i = some o) : h'.IsList i xs :=
  x.elim fun o q => ⟨o, k o q.1, q.2⟩
theorem tp_k {h h' : Heap} {i : Addr} {xs : Array Value} (x : h.IsTuple i xs) (k : ∀ o, h.get? i = some o → h'.get? i = some o) : h'.IsTuple i xs :=
  x.elim fun o q => ⟨o, k o q.1, q.2⟩
structure NI4 (x a b c d : Nat) : Prop where
  a : x ≠ a
  b : x ≠ b
  c : x ≠ c
  d : x ≠ d
theorem ni4 {x a b c d : Nat} (h : x ∉ [a, b, c, d]) : NI4 x a b c d :=
  ⟨fun e => h (e ▸ .head _), fun e => h (e ▸ .tail _ (.head _)), fun e => h (e ▸ .tail _ (.tail _ (.head _))), fun e => h (e ▸ .tail _ (.tail _ (.tail _ (.head _))))⟩
structure ZSt (z TI TO i1 i2 l1 l2 : Addr) (x y : Value) (i : Nat) (h : Heap) : Prop where
  hz : IsZip h z TI TO .none
  hTI : IsPair h TI (.ref i1) (.ref i2)
  hTO : ∃ a b, IsPair h TO a b
  h1 : h.IsListIter i1 l1 i
  h2 : h.IsTupleIter i2 l2 i
  hl1 : h.IsList l1 #[x]
  hl2 : h.IsTuple l2 #[y]
inductive ZIt (x y : Value) (i : Nat) (h : Heap) : Value → Prop
  | mk {T : Addr} (i0 : i = 0) (t : IsTup h T #[x, y]) : ZIt x y i h (.ref T)
inductive ZMid (z TI TO i1 i2 l1 l2 : Addr) (x y : Value) (i : Nat) (h : Heap) : Value → Prop
  | mk {T : Addr} (i0 : i = 0) (t : IsTup h T #[x, y]) (hz : IsZip h z TI TO (rawInt T)) (hTI : IsPair h TI (.ref i1) (.ref i2)) (hTO : ∃ a b, IsPair h TO a b) (h1 : h.IsListIter i1 l1 1) (h2 : h.IsTupleIter i2 l2 1)
      (hl1 : h.IsList l1 #[x]) (hl2 : h.IsTuple l2 #[y]) (nz : T ≠ z) : ZMid z TI TO i1 i2 l1 l2 x y i h (.ref T)
theorem zipT_turns {elts : List PySem.Expr} {k : Nat} {pos : Pos} {z TI TO i1 i2 l1 l2 : Addr} {x y : Value} (hh : A.handled = none) (D : ZipApart z TI TO i1 i2 l1 l2) :
    KTurns prog w A (.Tuple elts k pos) z [z, TI, TO, i1, i2, l1, l2] [z, TO, i1, i2] 1 (fun i v h => ZIt x y i h v)
      (fun i v h => ZMid z TI TO i1 i2 l1 l2 x y i h v) (fun i h => ZSt z TI TO i1 i2 l1 l2 x y i h) where
  sub := List.forall_mem_cons.mpr ⟨.head _, List.forall_mem_cons.mpr ⟨.tail _ (.tail _ (.head _)), List.forall_mem_cons.mpr ⟨.tail _ (.tail _ (.tail _ (.head _))), List.forall_mem_cons.mpr ⟨.tail _ (.tail _ (.tail _ (.tail _ (.head _)))), List.forall_mem_nil _⟩⟩⟩⟩
  frame := fun i h h' st hk =>
    ⟨hk z (.head _) _ st.hz, hk TI (.tail _ (.head _)) _ st.hTI, st.hTO.elim fun a q => ⟨a, q.elim fun b q => ⟨b, hk TO (.tail _ (.tail _ (.head _))) _ q⟩⟩, lit_k st.h1 (hk i1 (.tail _ (.tail _ (.tail _ (.head _))))),
      tit_k st.h2 (hk i2 (.tail _ (.tail _ (.tail _ (.tail _ (.head _)))))), ls_k st.hl1 (hk l1 (.tail _ (.tail _ (.tail _ (.tail _ (.tail _ (.head _))))))), tp_k st.hl2 (hk l2 (.tail _ (.tail _ (.tail _ (.tail _ (.tail _ (.tail _ (.head _)))))))) ⟩
  item := fun i s Q E hi st hQ => by
    cases Nat.lt_one_iff.mp hi
    have hT : s.TypeIs (.ref z) "zip" := ⟨_, st.hz, rfl⟩
    refine st.hTO.elim fun a q => q.elim fun b hTO => ?_
    unfold pyNext
    refine wpAny_bind (wpAny_attempt (wpAny_callSpecial?_slot (name := Str.ofString "__next__") hT F.slot_zip_next (wpAny_call_entry F.slot_zip_next hT F.entry_zip_next (zipT_item D st.hz st.hTI hTO st.h1 st.h2 st.hl1 st.hl2 (x := x) (y := y) rfl rfl fun h' a1 a2 a3 a4 a5 hk => wpAny_pure ?_) (F.args_zip_next_1 _))))
    exact hQ (.ref s.heap.objs.size) h' s.toks ⟨rfl, ⟨_, a5, rfl, _, rfl⟩, a1, hk _ _ D.TIz D.TITO D.TIi1 D.TIi2 st.hTI, ⟨_, _, a2⟩, a3, a4, ls_k st.hl1 (fun o => hk _ o D.l1z D.l1TO D.l1i1 D.l1i2), tp_k st.hl2 (fun o => hk _ o D.l2z D.l2TO D.l2i1 D.l2i2), Nat.ne_of_gt (Heap.lt_size st.hz)⟩
      fun c o hc => hk c o (ni4 hc).a (ni4 hc).b (ni4 hc).c (ni4 hc).d
  go := fun i v s Q E hm hQ => by
    cases hm with | mk i0 hT hz hTI hTO h1 h2 hl1 hl2 nz =>
    subst i0
    refine wpAny_letOwnedTupleGo_zip hz fun h' hz' hs => hQ h' ⟨rfl, hT.elim fun o r => ⟨o, hs.extBut _ _ nz r.1, r.2⟩⟩ ⟨hz', hs.extBut _ _ D.TIz hTI, hTO.elim fun a q => ⟨a, q.elim fun b q => ⟨b, hs.extBut _ _ D.TOz q⟩⟩, lit_k h1 (fun o => hs.extBut _ o D.i1z), tit_k h2 (fun o => hs.extBut _ o D.i2z), ls_k hl1 (fun o => hs.extBut _ o D.l1z), tp_k hl2 (fun o => hs.extBut _ o D.l2z)⟩
      fun c o hc => hs.extBut _ _ (ni4 hc).a
  done := fun s Q E st hQ => by
    have hT : s.TypeIs (.ref z) "zip" := ⟨_, st.hz, rfl⟩
    unfold pyNext
    refine wpAny_bind (wpAny_attempt (wpAny_callSpecial?_slot (name := Str.ofString "__next__") hT F.slot_zip_next (wpAny_call_entry F.slot_zip_next hT F.entry_zip_next (zipT_end hh D.i1z D.l1z st.hz st.hTI st.h1 st.hl1 rfl fun h' e hk he => ?_) (F.args_zip_next_1 _))))
    refine wpAny_bind (wpAny_isInstance (T := "StopIteration") (b := true) he isSubtype_stop (wpAny_pure ?_))
    exact hQ _ s.toks fun c o hc => hk c o (ni4 hc).a (ni4 hc).c
end
structure ZipL (I l1 l2 : Nat) (o1 o2 : Obj) (zs : Led) : Prop where
  eq : zs = [(I + 4, { cls := .type "zip", dict := none, data := .fields #[.none, .bool false, .bool false, .ref (I + 2), .ref (I + 3)], slots := #[] }), (I + 3, { cls := .type "tuple", data := .seq #[.none, .none] }), (I + 2, { cls := .type "tuple", data := .seq #[.ref I, .ref (I + 1)] }), (I + 1, o2), (I, o1)]
  i1 : o1.cls = .type "list_iterator" ∧ o1.data = .fields #[.ref l1, rawInt 0]
  i2 : o2.cls = .type "tuple_iterator" ∧ o2.data = .fields #[.ref l2, rawInt 0]
section
variable {w : World} {c : Cx} {l : Led} {m : Mp} {P : Value → Led → Mp → Prop} {PF : Flow → Led → Mp → Prop} {N : Nat} {env : Env}
theorem nd5 {I : Nat} {o0 o1 o2 o3 o4 : Obj} : Nd [(I + 4, o4), (I + 3, o3), (I + 2, o2), (I + 1, o1), (I, o0)] := by
  refine Nd.cons (List.forall_mem_cons.mpr ⟨Nat.lt_succ_self _, List.forall_mem_cons.mpr ⟨?_, List.forall_mem_cons.mpr ⟨?_, List.forall_mem_cons.mpr ⟨?_, List.forall_mem_nil _⟩⟩⟩⟩) (Nd.cons (List.forall_mem_cons.mpr ⟨Nat.lt_succ_self _, List.forall_mem_cons.mpr ⟨?_, List.forall_mem_cons.mpr ⟨?_, List.forall_mem_nil _⟩⟩⟩) (Nd.cons (List.forall_mem_cons.mpr ⟨Nat.lt_succ_self _, List.forall_mem_cons.mpr ⟨?_, List.forall_mem_nil _⟩⟩) (Nd.cons (List.forall_mem_cons.mpr ⟨Nat.lt_succ_self _, List.forall_mem_nil _⟩) (Nd.cons (List.forall_mem_nil _) .nil)))) <;>
    first | exact Nat.add_lt_add_left (by decide) I | exact Nat.lt_add_of_pos_right (by decide)
theorem J.zipN {l1 l2 : Nat} {a b : Value} {n1 : Nat} (i : Nat) (h1 : nth l i = some (l1, lsO #[a] n1)) (h2 : c.g.get? l2 = some (tupO [b])) (k : ∀ (I : Nat) o1 o2 zs, ZipL I l1 l2 o1 o2 zs → (∀ p ∈ l, @LT.lt Nat _ p.1 I) → @LT.lt Nat _ c.L I → @LT.lt Nat _ l2 I → P (.ref (I + 4)) (zs ++ l) m) :
    J w c l m (PySem.call (.type "zip") [.ref l1, .ref l2]) P := fun h tk O => by
  have a1 := (O.N _ (nth_mem h1)).1
  have a2 := O.F.keep _ _ h2
  have tL : c.L < h.objs.size := O.F.ns.lt
  refine call_zipT ⟨_, a1, rfl, _, rfl⟩ ⟨_, a2, rfl, _, rfl⟩ fun h' hz hTI hTO hi1 hi2 hk => ?_
  obtain ⟨o1, e1, c1, d1⟩ := hi1
  obtain ⟨o2, e2, c2, d2⟩ := hi2
  have lt : ∀ p ∈ l, @LT.lt Nat _ p.1 h.objs.size := fun p hp => Heap.lt_size (O.N p hp).1
  refine ⟨h', tk, _, _, rfl, ⟨O.F.keeps hk, ?_, ?_⟩, k h.objs.size o1 o2 _ ⟨rfl, ⟨c1, d1⟩, ⟨c2, d2⟩⟩ lt tL (Heap.lt_size a2)⟩
  · refine (News.append ?_ (O.N.grown hk))
    have nw : ∀ j : Nat, c.g.get? (h.objs.size + j) = none ∧ h.objs.size + j ≠ c.L := fun j => ⟨ktu_new O.F (Nat.le_add_right _ _), fun e => ktu_ne j tL e.symm⟩
    exact List.forall_mem_cons.mpr ⟨⟨hz, (nw 4).2, (nw 4).1⟩, List.forall_mem_cons.mpr ⟨⟨hTO, (nw 3).2, (nw 3).1⟩, List.forall_mem_cons.mpr ⟨⟨hTI, (nw 2).2, (nw 2).1⟩, List.forall_mem_cons.mpr ⟨⟨e2, (nw 1).2, (nw 1).1⟩, List.forall_mem_cons.mpr ⟨⟨e1, (nw 0).2, (nw 0).1⟩, List.forall_mem_nil _⟩⟩⟩⟩⟩
  · refine nd_app nd5 O.nd fun p hp b hb e => ?_
    have q := lt p hp
    simp only [List.map_cons, List.map_nil, List.mem_cons, List.not_mem_nil, or_false] at hb
    subst e
    rcases hb with e | e | e | e | e
    · exact ktu_ne 4 q e
    · exact ktu_ne 3 q e
    · exact ktu_ne 2 q e
    · exact ktu_ne 1 q e
    · exact Nat.ne_of_lt q e
theorem al5 {α : Type} {P : α → Prop} {a b c d e : α} (h1 : P a) (h2 : P b) (h3 : P c) (h4 : P d) (h5 : P e) : ∀ x ∈ [a, b, c, d, e], P x :=
  List.forall_mem_cons.mpr ⟨h1, List.forall_mem_cons.mpr ⟨h2, List.forall_mem_cons.mpr ⟨h3, List.forall_mem_cons.mpr ⟨h4, List.forall_mem_cons.mpr ⟨h5, List.forall_mem_nil _⟩⟩⟩⟩⟩
theorem al4 {α : Type} {P : α → Prop} {a b c d : α} (h1 : P a) (h2 : P b) (h3 : P c) (h4 : P d) : ∀ x ∈ [a, b, c, d], P x :=
  List.forall_mem_cons.mpr ⟨h1, List.forall_mem_cons.mpr ⟨h2, List.forall_mem_cons.mpr ⟨h3, List.forall_mem_cons.mpr ⟨h4, List.forall_mem_nil _⟩⟩⟩⟩
theorem nin {a b : Nat} {l : List Nat} (h : a ≠ b) (k : a ∉ l) : a ∉ b :: l := fun q => (List.mem_cons.mp q).elim h k
theorem nin0 {a : Nat} : a ∉ ([] : List Nat) := fun q => nomatch q
theorem off_ge {I : Nat} {own l : Led} (lt : ∀ p ∈ l, @LT.lt Nat _ p.1 I) (ge : ∀ p ∈ own, @LE.le Nat _ I p.1) : OwnOff own (l.map (·.1)) := fun q hq b hb e => by
  obtain ⟨p, hp, e2⟩ := List.mem_map.mp hb
  have t := lt p hp
  rw [e2, ← e] at t
  exact Nat.not_lt.mpr (ge q hq) t
theorem zobj {I l1 l2 : Addr} {x y : Value} (i : Nat) (h : Heap) (st : ZSt (I + 4) (I + 2) (I + 3) I (I + 1) l1 l2 x y i h) :
    ∃ its, Objs [(I + 4, "zip"), (I + 2, "tuple"), (I + 3, "tuple"), (I, "list_iterator"), (I + 1, "tuple_iterator")] its ∧ ∀ p ∈ its, h.get? p.1 = some p.2 := by
  obtain ⟨hz, hTI, ⟨a, b, hTO⟩, ⟨o1, ho1, c1, _⟩, ⟨o2, ho2, c2, _⟩, _⟩ := st
  exact ⟨[(_, _), (_, _), (_, _), (I, o1), (_, o2)], ⟨⟨rfl, rfl⟩, ⟨rfl, rfl⟩, ⟨rfl, rfl⟩, ⟨rfl, c1⟩, ⟨rfl, c2⟩, trivial⟩, al5 hz hTI hTO ho1 ho2⟩
theorem zI (a b : Value) (i : Nat) (v : Value) (h : Heap) (q : ZIt a b i h v) : ∃ t, ([.pair (fun _ => a) b] : List Itm)[i]? = some t ∧ t.Is v h := by
  cases q with | @mk T i0 t =>
  subst i0
  exact ⟨_, rfl, T, 0, rfl, t⟩
theorem nd5z {I : Nat} {o0 o1 o2 o3 o4 : Obj} : Nd [(I + 4, o4), (I + 2, o2), (I + 3, o3), (I, o0), (I + 1, o1)] :=
  List.Pairwise.perm nd5 (.cons _ (.trans (.swap _ _ _) (.cons _ (.cons _ (.swap _ _ _))))) (fun h => Ne.symm h)
inductive KZipT (PF : Flow → Led → Mp → Prop) (l0 own : Led) : Flow → Led → Mp → Prop
  | next {m : Mp} (h : PF .next l0 m) : KZipT PF l0 own .next (l0 ++ own) m
  | cont {m : Mp} (h : PF .next l0 m) : KZipT PF l0 own .cont (l0 ++ own) m
inductive KZip (w : World) (c : Cx) (PF : Flow → Led → Mp → Prop) (x y : Str) (a b : Value) (l1 l2 n1 : Nat) (body : List Stmt) (env : Env) : Value → Led → Mp → Prop
  | mk {I : Nat} {o1 o2 : Obj} {zs l0 : Led} {m : Mp} (Z : ZipL I l1 l2 o1 o2 zs) (lt : ∀ p ∈ l0, @LT.lt Nat _ p.1 I) (lL : @LT.lt Nat _ c.L I) (l2L : @LT.lt Nat _ l2 I) (ml : (l1, lsO #[a] n1) ∈ l0)
      (turn : ∀ own, J w c (l0 ++ own) ((y, b) :: (x, a) :: m) (execs body env) (KZipT PF l0 own)) : KZip w c PF x y a b l1 l2 n1 body env (.ref (I + 4)) (zs ++ l0) m
theorem J.forZ {x y : Str} {px py tpos pos : Pos} {k0 : Nat} {iter : Expr} {body : List Stmt} {l1 l2 n1 : Nat} {a b : Value} (he : EnvX c env) (R : Rm c N) (h2 : c.g.get? l2 = some (tupO [b]))
    (k : J w c l m (eval iter env) (KZip w c PF x y a b l1 l2 n1 body env))
    (hx : autoParam (env.kindOf x = some .local) Mine.aT3._auto_1) (hy : autoParam (env.kindOf y = some .local) Mine.aT3._auto_1) (hs : autoParam (∀ x, foldedSetIterable iter env x = pure x) Mine.aT9._auto_1) (ha : autoParam ((assignEach [.Name x px, .Name y py] env).map (·.2) = [PySem.assign (.Name x px) env, PySem.assign (.Name y py) env]) Mine.aT3._auto_1) (hst : autoParam ((assignEach [.Name x px, .Name y py] env).findIdx? (·.1) = none) Mine.aT3._auto_1) :
    J w c l m (exec (.For (.Tuple [.Name x px, .Name y py] k0 tpos) iter body [] pos) env) PF := fun h tk O => by
  have he0 := he
  obtain ⟨cn, cs, aa, ccd, cl, rfl, hk⟩ := he
  obtain ⟨dp, un, fr, gd, eA, _⟩ := R
  refine For_turns (h₀ := c.g) (m := lk m) O.F (k.run O ?_) hs (by passes_own)
  rintro xv l' m' h tk O' ⟨⟨rfl, i1, i2⟩, lt, lL, l2L, ml, turn⟩
  rename_i I o1 o2 l0
  have O0 : Own c l0 m' h := ⟨O'.F, fun p hp => O'.N p (List.mem_append_right _ hp), (List.pairwise_append.mp O'.nd).2.1⟩
  have N0 := O'.N _ (List.mem_append_left _ (.head _))
  have N1 := O'.N _ (List.mem_append_left _ (.tail _ (.head _)))
  have N2 := O'.N _ (List.mem_append_left _ (.tail _ (.tail _ (.head _))))
  have N3 := O'.N _ (List.mem_append_left _ (.tail _ (.tail _ (.tail _ (.head _)))))
  have N4 := O'.N _ (List.mem_append_left _ (.tail _ (.tail _ (.tail _ (.tail _ (.head _))))))
  have a1 := O0.N _ ml
  have D : ZipApart (I + 4) (I + 2) (I + 3) I (I + 1) l1 l2 := ktu_apart _ _ _ (lt _ ml) l2L
  refine wpAny_pyIter_zip N0.1 ?_
  refine ktg_core (s := c.st h tk) (tk0 := tk) (keep := [(l1, lsO #[a] n1)]) (ws := [(I + 4, "zip"), (I + 2, "tuple"), (I + 3, "tuple"), (I, "list_iterator"), (I + 1, "tuple_iterator")]) (xs := [.pair (fun _ => a) b]) (zipT_turns (x := a) (y := b) (by rw [eA]) D) rfl (zI a b) zobj
    (al5 ⟨.head _, N0.2.2⟩ ⟨.tail _ (.head _), N2.2.2⟩ ⟨.tail _ (.tail _ (.head _)), N1.2.2⟩ ⟨.tail _ (.tail _ (.tail _ (.head _))), N4.2.2⟩ ⟨.tail _ (.tail _ (.tail _ (.tail _ (.head _)))), N3.2.2⟩)
    (al4 (.head _) (.tail _ (.tail _ (.head _))) (.tail _ (.tail _ (.tail _ (.head _)))) (.tail _ (.tail _ (.tail _ (.tail _ (.head _))))))
    (List.forall_mem_cons.mpr ⟨.inl (.head _), List.forall_mem_cons.mpr ⟨.inl (.tail _ (.head _)), al5 (.inl (.tail _ (.tail _ (.head _)))) (.inl (.tail _ (.tail _ (.tail _ (.head _))))) (.inl (.tail _ (.tail _ (.tail _ (.tail _ (.head _)))))) (.inr (.inl ⟨_, .head _⟩)) (.inr (.inr ⟨_, h2⟩))⟩⟩)
    (nin (ktu_ne 4 lL) (nin (ktu_ne 2 lL) (nin (ktu_ne 3 lL) (nin (Nat.ne_of_lt lL) (nin (ktu_ne 1 lL) (nin a1.2.1.symm (nin (fun e => absurd (Heap.lt_size h2) (Nat.not_lt.mpr (e ▸ O0.F.above))) nin0)))))))
    (fun p hp => nin (ktu_ne 4 (lt p hp)) (nin (ktu_ne 3 (lt p hp)) (nin (Nat.ne_of_lt (lt p hp)) (nin (ktu_ne 1 (lt p hp)) nin0))))
    ⟨N0.1, N2.1, ⟨_, _, N1.1⟩, ⟨_, N4.1, i1⟩, ⟨_, N3.1, i2⟩, ⟨_, a1.1, rfl, _, rfl⟩, ⟨_, O0.F.keep _ _ h2, rfl, _, rfl⟩⟩ O0.F O0.N (And.intro ml trivial) ?_
  refine ItemsRest.pair fun T t h₁ tk₁ hT F₁ q4 _ q2 _ q3 _ q0 _ q1 _ N₁ => ?_
  have off := fun {o4 o2 o3 o0 o1 : Obj} => off_ge lt (al5 (a := (I + 4, o4)) (b := (I + 2, o2)) (c := (I + 3, o3)) (d := (I, o0)) (e := (I + 1, o1)) (Nat.le_add_right I 4) (Nat.le_add_right I 2) (Nat.le_add_right I 3) (Nat.le_refl I) (Nat.le_add_right I 1))
  have O1 : Own c (l0 ++ [(I + 4, q4), (I + 2, q2), (I + 3, q3), (I, q0), (I + 1, q1)]) m' h₁ :=
    ⟨F₁, fun p hp => (List.mem_append.mp hp).elim (fun hp => N₁ p (List.mem_append_right _ hp)) (fun hp => N₁ p (List.mem_append_left _ hp)), nd_app O0.nd nd5z off⟩
  refine unpackN_ F₁ O1.N hT (by rw [eA]) (by rw [show (assignEach [Expr.Name x px, Expr.Name y py] (envX cn cs c.L aa ccd cl)).length = ((assignEach [Expr.Name x px, Expr.Name y py] (envX cn cs c.L aa ccd cl)).map (·.2)).length from (List.length_map ..).symm, ha]; rfl) hst fun h2' F2 N2 => ?_
  rw [ha]
  refine bindsT_run he0 [(x, px), (y, py)] [a, b] m' h2' tk₁ (List.forall_mem_cons.mpr ⟨hx, List.forall_mem_cons.mpr ⟨hy, List.forall_mem_nil _⟩⟩) ⟨F2, N2, O1.nd⟩ fun h3 tk3 O3 => (turn _).run O3 fun fl l2' m2 h4 tk4 O4 hf => ?_
  have fin : ∀ pf : PF .next l0 m2, l2' = l0 ++ [(I + 4, q4), (I + 2, q2), (I + 3, q3), (I, q0), (I + 1, q1)] → UnrEndW c.g c.L (c.st h₁ tk₁) [(I + 4, q4), (I + 2, q2), (I + 3, q3), (I, q0), (I + 1, q1)] (fun m'' n'' => SubL [(l1, lsO #[a] n1)] n'' ∧ ItemsRest PR w c.A noE c.g (envX cn cs c.L aa ccd cl) (.Tuple [.Name x px, .Name y py] k0 tpos) body (Post c PF) (c.st h tk) [(I + 4, "zip"), (I + 2, "tuple"), (I + 3, "tuple"), (I, "list_iterator"), (I + 1, "tuple_iterator")] [(l1, lsO #[a] n1)] [] m'' n'') (c.st h4 tk4) := by
    rintro pf rfl
    exact ⟨h4, tk4, lk m2, l0, rfl, O4.F, fun p hp => (List.mem_append.mp hp).elim (fun hp => O4.N p (List.mem_append_right _ hp)) (fun hp => O4.N p (List.mem_append_left _ hp)), fun p hp q hq e => off q hq p.1 (List.mem_map_of_mem hp) e.symm, And.intro ml trivial, fun h5 tk5 F5 N5 => ⟨_, _, _, _, rfl, ⟨F5, N5, O0.nd⟩, pf⟩⟩
  cases hf with
  | next pf => exact fin pf rfl
  | cont pf => exact fin pf rfl
end
end Mine

open PySem PySem.W PySem.Calls PyProof.Rows
set_option Elab.async false
set_option linter.all false
set_option maxRecDepth 100000
set_option maxHeartbeats 40000000
namespace Mine
theorem J.lenTB {w : World} {c : Cx} {l : Led} {m : Mp} {P : Value → Led → Mp → Prop} {A : Addr} {its : Array Value} {k : Int} (hD : IsTup c.g A its) (hk : (its.size : Int) = k) (hz : k ≤ 16384) (h : ∀ t, P (.int k t) l m) : J w c l m (PySem.call (.builtin "len") [.ref A]) P := fun _ tk O =>
  kun_lenT (hD.keeps O.F.keep) hk hz ⟨_, _, _, _, rfl, O, h _⟩
theorem J.tupOfL {w : World} {c : Cx} {l : Led} {m : Mp} {P : Value → Led → Mp → Prop} {A : Addr} {vs : List Value} {n : Nat} (i : Nat) (h1 : nth l i = some (A, lsO vs.toArray n)) (hz : vs.length ≤ 16384) (k : ∀ d, P (.ref d) ((d, tupO vs) :: l) m) : J w c l m (PySem.call (.type "tuple") [.ref A]) P := fun h tk O =>
  kde_tupleOf O.F O.N (News.isList O.N (nth_mem h1)) (by simpa using hz) (by simp) fun d h' F' N' lt => ⟨_, _, _, _, rfl, ⟨F', N', O.nd.cons lt⟩, k d⟩
section
variable {w : World} {mean : ExcName → Option Value} {mg mb : Str → Option Value} {dp un : Nat} {fr : Option (List Env)} {gd : Option (List Code)} {s : Shared} {E : Value → Shared → Prop} {Q : Value → Shared → Prop} {hb : Heap}
theorem app_fn (G : Gd w mean mg mb hb) (kp : ∀ b o, hb.get? b = some o → s.heap.get? b = some o) (R : Room dp un 10) (W : Wd) (wok : W.Ok) {f : FS} (Z : BnkF w W f s.heap) (hhi : ∀ a ∈ W.bank ++ W.fun3, hb.get? a = none) (j : Int) (jt : Tok) (lA n0 : Nat) (x : Int) (xt : Tok) (sT : Nat) (so : Int) (st rt : Tok) (nm : Value) (t : Tm)
    (hl : s.heap.get? lA = some (lsO #[.int x xt] n0)) (hl' : hb.get? lA = none) (hne : lA ∉ W.bank ++ W.fun3) (hs : s.heap.get? sT = some (tupO [.int so st]))
    (f0 : 0 ≤ j) (f1 : j < 10) (q1 : f.ns[j.toNat]? = some nm) (q2 : f.as[j.toNat]? = some (.ref sT)) (q3 : f.rs[j.toNat]? = some (.int so rt)) (x0 : 0 ≤ x) (x1 : x < 1000) (hx : f.ts[x.toNat]? = some t) (ht : t.sort = so) (hz : f.ts.length ≤ 900)
    (hret : ∀ (k : Nat) tk h' tk' ts', Mk f.ts ⟨(Str.ofString "app"), [x], so, .i j⟩ ts' k → BnkF w W ⟨ts', f.ns, f.as, f.rs⟩ h' → Keep (W.core ++ W.fun3) s.heap h' → Q (.int (k : Int) tk) { s with heap := h', toks := tk' }) :
    wpAny (model PySem.Challenge.rw_sj0101_01.row.prog w) (AR dp un fr gd) (call (.ref 417) [.ref W.bA, .int j jt, .ref lA]) Q E s := by
  have X₀ := G.X
  revert X₀
  k_fill
  intro X₀
  clear X₀
  refine Z.open wok hhi fun os as ss ds n1 n2 n3 n4 nes nep k1 k2 k3 ND nd noT T => ?_
  have ND : ∀ p ∈ (lA, lsO #[.int x xt] n0) :: led10 w W f os as ss ds n1 n2 n3 n4 nes nep k1 k2 k3, s.heap.get? p.1 = some p.2 ∧ hb.get? p.1 = none := List.forall_mem_cons.mpr ⟨⟨hl, hl'⟩, ND⟩
  refine call_J (n := 9) _ [((Str.ofString "self"), .ref W.bA), ((Str.ofString "f"), .int j jt), ((Str.ofString "some"), .ref lA)] R G kp ND (List.pairwise_cons.mpr ⟨fun p hp e => hne (by have q := led10_mem p hp; rw [← e] at q; exact q), nd⟩) ?_
  intro c G R he en
  have tk0 := en.tup ND (List.forall_mem_cons.mpr ⟨by simp, noT⟩)
  have T := T c tk0
  have hsg : c.g.get? sT = some (tupO [.int so st]) := tk0 _ _ _ _ hs rfl rfl
  have f1' : j < 1000 := by lia
  dsimp only [List.reverse, List.reverseAux]
  k_with "app_MFun3" => ((with_reducible refine (?_ : J _ _ _ _ (PySem.call (.builtin "len") _) _)); (first | refine J.lenTB (k := 1) (its := #[.int so st]) ⟨_, hsg, rfl, _, rfl⟩ rfl (by decide) ?_ | refine J.len (k := 1) _ (by k_extra "nth") rfl (by decide) ?_); intro t_l)
  k_with "app_MFun3" => ((with_reducible refine (?_ : J _ _ _ _ (exec (.For _ _ _ _ _) _) _)); refine J.forZ (l1 := lA) (n1 := n0) (a := .int x xt) he R hsg ?_)
  k_with "app_MFun3" => ((with_reducible refine (?_ : J _ _ _ _ (PySem.call (.type "zip") _) _)); refine J.zipN _ (by k_extra "nth") hsg ?_; intro I_l o1_l o2_l zs_l Z_l lt_l lL_l l2_l; refine KZip.mk Z_l lt_l lL_l l2_l (.head _) ?_; intro own_l)
  k_with "app_MFun3" => ((with_reducible refine (?_ : J _ _ _ _ (PySem.call (.ref 291) _) _)); refine J.want G R wok T.bk (fun p hp => List.mem_append_left _ (.tail _ hp)) x0 x1 hx ht ?_)
  k_with "app_MFun3" => ((with_reducible refine (?_ : J _ _ _ _ (callWith _ (.type _) _ _ _) _)); refine J.ty ?_)
  k_with "app_MFun3" => ((with_reducible refine (?_ : J _ _ _ _ (PySem.call (.type "tuple") _) _)); refine J.tupOfL (vs := [.int x xt]) (i := _) (by k_extra "nth") (Nat.le_of_ble_eq_true rfl) ?_; intro d_l)
  k_with "app_MFun3" => ((with_reducible refine (?_ : J _ _ _ _ (PySem.call (.ref 270) _) _)); refine J.makeF (t := ⟨(Str.ofString "app"), [x], so, .i j⟩) G R wok T (.drop (.drop .nil)) (wf_i (by decide)) (fun h O => items_int (O.N.get (.head _)) (.cons _ _ .nil)) (fun h O => ⟨_, rfl⟩) hz ?_; intro k8 tk8 ts8 R8 M8 T8 dr8; have m8 := dr8 _ (.skip (.here .nil)); clear dr8)
  repeat' (first | k_extra "app_MFun3" | k_extra "j")
  refine KZipT.next ?_
  repeat' (first | k_extra "app_MFun3" | k_extra "j")
  intro h9 tk9 O9 K9
  rename TlD _ _ _ _ => T8
  have z9 := T8.at_ _ _ _ O9 fun _ h => h
  exact hret _ _ _ _ _ (by assumption) z9 (K9.less (fun p hp => (ND p hp).1) (List.forall_mem_cons.mpr ⟨.inr (O9.N _ (by assumption)).1, z9.less⟩))
end
end Mine

open PySem PySem.W PySem.Calls PyProof.Rows
set_option Elab.async false
set_option linter.all false
set_option maxRecDepth 100000
set_option maxHeartbeats 40000000
namespace Mine
theorem Six.val {vs : Array Value} {c : Nat → Int} (h : Six vs c) {i : Nat} {v : Value} (e : vs[i]? = some v) : ∃ t, v = .int (c i) t := by
  have hi : i < 6 := by
    have := (Array.getElem?_eq_some_iff.mp e).1
    rw [h.1] at this; exact this
  obtain ⟨t, q⟩ := h.2 i hi
  rw [e] at q
  exact ⟨t, Option.some.inj q⟩
theorem Six.turn {vs : Array Value} {c : Nat → Int} (h : Six vs c) {i : Nat} {v : Value} (e : vs[i]? = some v) {P : Prop} (k : ∀ t, v = .int (c i) t → P) : P := let ⟨t, q⟩ := h.val e; k t q
theorem lists_at {g : Heap} {a : Addr} {vs : Array Value} {n : Nat} (e : g.get? a = some (lsO vs n)) : g.IsList a vs := ⟨_, e, rfl, _, rfl⟩
theorem Wrl.all {w : World} {V : Vd} {i z : Nat} {ts : List Tm} {wt : Int → Option (Nat → Int)} {bl : Int → Option (List Int)} {h h' : Heap} (Z : Wrl w V i z ts wt bl h) (k : Keep [] h h') : Wrl w V i z ts wt bl h' := by
  obtain ⟨B, Fd, o1, o2, o3, k2, k3, Z⟩ := Z
  have kk : ∀ b o, h.get? b = some o → h'.get? b = some o := fun b o e => k b o List.not_mem_nil e
  exact ⟨B.all k, Fd.two (fun b o _ e => kk b o e), o1, o2, o3, k2, k3, ⟨kk _ _ Z.pts, kk _ _ Z.wo, kk _ _ Z.wtg, kk _ _ Z.blg, Z.d1, Z.d2, Z.d3, Z.wtAt.keeps (fun b o _ _ _ _ e => kk b o e), Z.blAt.keeps (fun b o _ _ _ _ e => kk b o e), Z.l2, Z.l3, Z.ex.keeps (fun b o _ _ _ _ e => kk b o e)⟩⟩
noncomputable def MulAt (c : Nat → Int) (p : Int) : Prop := ∀ i, i < 6 → IntMulOk (c i) p
theorem mulAt {vs : Array Value} {c : Nat → Int} {p : Int} (hs : Six vs c) (hm : MulAt c p) {i : Nat} {v : Value} (e : vs[i]? = some v) : IntMulOk (c i) p := hm i (by rw [← hs.1]; exact (Array.getElem?_eq_some_iff.mp e).1)
noncomputable def ArgsLt (t : Tm) (j : Int) : Prop := ∀ a ∈ t.args, a < j
theorem Mk.old {ts ts' : List Tm} {t u : Tm} {k i : Nat} (M : Mk ts t ts' k) (e : ts[i]? = some u) : ts'[i]? = some u := by
  rcases M with ⟨rfl, _, _⟩ | ⟨_, rfl, _⟩
  · exact e
  · rw [List.getElem?_append_left (List.getElem?_eq_some_iff.mp e).1]; exact e
theorem Mk.at_ {ts ts' : List Tm} {t : Tm} {k : Nat} (M : Mk ts t ts' k) : ts'[k]? = some t := by
  rcases M with ⟨rfl, _, e⟩ | ⟨_, rfl, rfl⟩
  · exact e
  · simp
theorem times_ne {ts ts' ts'' : List Tm} {u t : Tm} {k1 k2 : Nat} {j so : Int} {d : Dt} {op : Str} (M : Mk ts u ts' k1) (N : Mk ts' ⟨op, [(k1 : Int), j], so, d⟩ ts'' k2) (h0 : 0 ≤ j) (ht : ts[j.toNat]? = some t) (ha : ArgsLt t j) : (k2 : Int) ≠ j := by
  intro e
  have h1 := N.old (M.old ht)
  have h2 := N.at_
  have : j.toNat = k2 := by lia
  rw [this, h2] at h1
  cases h1
  exact absurd (ha j (by simp)) (Int.lt_irrefl _)
section
variable {w : World} {c : Cx} {l D X : Led} {m : Mp} {P : Value → Led → Mp → Prop} {N : Nat} {W : Wd} {ts : List Tm} {a : Addr} {t1 t2 tk : Tok} {x : Int × Int} {k : Int} {t : Tm} {so : Int}
theorem J.times1 (G : Gc w c) (R : Rm c N) (wok : W.Ok) (B : BkD w c W ts D) (s : ∀ p ∈ D, p ∈ l) (ha : c.g.get? a = some (tupO [.int x.1 t1, .int x.2 t2])) (hp : -100 ≤ x.1 ∧ x.1 ≤ 100) (hq : 0 < x.2 ∧ x.2 ≤ 100) (h0 : 0 ≤ k) (h1 : k < 1000) (ht : ts[k.toNat]? = some t) (ho : t.op ≠ Str.ofString "num") (hs : t.sort = so) (hso : so = 1 ∨ so = 2) (hw : so = 1 → x.2 = 1) (hz : ts.length ≤ 890)
    (e : x = (1, 1)) (h : P (.int k tk) l m) (hN : autoParam (14 ≤ N) Mine.aT2._auto_1) : J w c l m (PySem.call (.ref 485) [.ref W.bA, .ref a, .int k tk]) P :=
  J.con 14 G R hN fun g r _ _ _ O ret => times_num_fn g O.F.keep r W wok (B.at_ _ _ _ O s) (B.hi _ _ _ O s) a x t1 t2 (O.F.keep _ _ ha) hp hq k tk t so h0 h1 ht ho hs hso hw hz (fun _ _ _ K => ret _ _ _ K fun _ => h) (fun n => absurd e n)
theorem J.timesN (G : Gc w c) (R : Rm c N) (wok : W.Ok) (B : BkD w c W ts D) (kt : Kt D l X) (ha : c.g.get? a = some (tupO [.int x.1 t1, .int x.2 t2])) (hp : -100 ≤ x.1 ∧ x.1 ≤ 100) (hq : 0 < x.2 ∧ x.2 ≤ 100) (h0 : 0 ≤ k) (h1 : k < 1000) (ht : ts[k.toNat]? = some t) (ho : t.op ≠ Str.ofString "num") (hs : t.sort = so) (hso : so = 1 ∨ so = 2) (hw : so = 1 → x.2 = 1) (hz : ts.length ≤ 890)
    (ne : x ≠ (1, 1)) (h : ∀ (k1 k2 : Nat) tk ts' ts'' R, Mk ts ⟨Str.ofString "num", [], so, .r x.1 x.2⟩ ts' k1 → Mk ts' ⟨Str.ofString "*", [(k1 : Int), k], so, .i 0⟩ ts'' k2 → BkD w c W ts'' R → P (.int (k2 : Int) tk) (X ++ R) m) (hN : autoParam (14 ≤ N) Mine.aT2._auto_1) : J w c l m (PySem.call (.ref 485) [.ref W.bA, .ref a, .int k tk]) P :=
  J.bank (Res := fun v ts'' => ∃ (k1 k2 : Nat) (tk : Tok) (ts' : List Tm), v = .int (k2 : Int) tk ∧ Mk ts ⟨Str.ofString "num", [], so, .r x.1 x.2⟩ ts' k1 ∧ Mk ts' ⟨Str.ofString "*", [(k1 : Int), k], so, .i 0⟩ ts'' k2) 14 G R hN B wok kt
    (fun g r _ _ _ O b hi ret => times_num_fn g O.F.keep r W wok b hi a x t1 t2 (O.F.keep _ _ ha) hp hq k tk t so h0 h1 ht ho hs hso hw hz (fun e => absurd e ne) fun _ k1 k2 tk _ _ ts' _ M M' K C => ret _ _ _ _ K C ⟨k1, k2, tk, ts', rfl, M, M'⟩)
    fun v ts'' R ⟨k1, k2, tk, ts', e, M, M'⟩ B' => by subst e; exact h k1 k2 tk ts' ts'' R M M' B'
end
theorem J.kitemA {w : World} {c : Cx} {l : Led} {m : Mp} {P : Value → Led → Mp → Prop} {K : Type} [DecidableEq K] {kvs : List (K × Value)} {k : K} {key v : Value} {d : Addr} {o : Obj} (knd : KeyKind PR w K) {value slice : Expr} (i : Nat) (h1 : nth l i = some (d, o)) (hd : o.IsDictOf knd kvs) (hk : knd.is k key = true) (hl : valueAt kvs k = some v) (h : P v l m)
    (hs : autoParam (subscripted slice false (.ref d) key = operate [.ref d, key] (getItem (.ref d) key)) Mine.aT4._auto_1) : J w c l m (subscriptTail value slice (.ref d) key) P := fun _ _ O =>
  have hD := kda_dict O.N (nth_mem h1) hd
  tail_any hD.typeIs slot_dict_getitem.lookup (wpAny_getItem_of hk hD.mapOf hl ⟨_, _, _, _, rfl, O, h⟩) hs
section
variable {w : World} {mean : ExcName → Option Value} {mg mb : Str → Option Value} {dp un : Nat} {fr : Option (List Env)} {gd : Option (List Code)} {s : Shared} {E : Value → Shared → Prop} {Q : Value → Shared → Prop} {hb : Heap}
theorem jlines_l_MLawTimes : True := by
  k_with "law" => ((with_reducible refine (?_ : J _ _ _ _ (eval (.Name _ _) _) _)); first | refine J.name (by assumption) (by rfl) ?_ | refine J.nameC _ (by rfl) (by k_extra "nth") (by assumption) ?_ | refine J.nameN _ (by k_extra "nth") (by assumption) (by assumption) ?_ | refine J.nameKe (by assumption) ?_ | refine J.nameBe (by assumption) ?_)
  k_with "law" => ((with_reducible refine (?_ : J _ _ _ _ (subscriptTail _ _ (Value.ref _) (Value.str _ _)) _)); refine J.kitem (PySem.strKind PR _) _ (by k_extra "nth") (by assumption) (strKind_is _ _ _ _) rfl ?_)
  k_with "law" => ((with_reducible refine (?_ : J _ _ _ _ (setItem (Value.ref _) (Value.int _ _) _) _)); refine J.kset (PySem.intKind PR _) (by k_extra "upf") (by assumption) (intKind_is _ _ _ _) (by lia) ?_; intro o9_l D9_l)
  k_with "law" => ((with_reducible refine (?_ : J _ _ _ _ (PySem.call (.ref 744) _) _)); refine J.scale (by assumption) (by assumption) ?_; intro t_l)
  k_with "law" => ((with_reducible refine J.fdivInt ?_ ?_ ?_); (focus assumption); (focus assumption); intro t_l)
  trivial
theorem law_times_fn (G : Gd w mean mg mb hb) (kp : ∀ b o, hb.get? b = some o → s.heap.get? b = some o) (R : Room dp un 18) (V : Vd) (vok : V.Ok) {ts : List Tm} {i z : Nat} {wt : Int → Option (Nat → Int)} {bl : Int → Option (List Int)} (Z : Wrl w V i z ts wt bl s.heap) (hhi : ∀ a ∈ V.all, hb.get? a = none) (a : Nat) (x : Int × Int) (t1 t2 : Tok) (ha : s.heap.get? a = some (tupO [.int x.1 t1, .int x.2 t2])) (hp : -100 ≤ x.1 ∧ x.1 ≤ 100) (hq : 0 < x.2 ∧ x.2 ≤ 100) (hw : V.base = 1 → x.2 = 1)
    (j : Int) (jt : Tok) (t : Tm) (A : Nat → Int) (h0 : 0 ≤ j) (h1 : j < 1000) (ht : ts[j.toNat]? = some t) (ho : t.op ≠ Str.ofString "num") (hal : ArgsLt t j) (hs : t.sort = V.base) (w1 : wt j = some A) (hm : MulAt A x.1) (hz : ts.length ≤ 880) (zz : z ≤ 890)
    (hone : x = (1, 1) → ∀ h' tk', Keep V.mut s.heap h' → Wrl w V i z ts wt bl h' → Q (.int j jt) { s with heap := h', toks := tk' })
    (hret : x ≠ (1, 1) → ∀ (k1 k2 : Nat) tk h' tk' ts' ts'', Mk ts ⟨Str.ofString "num", [], V.base, .r x.1 x.2⟩ ts' k1 → Mk ts' ⟨Str.ofString "*", [(k1 : Int), j], V.base, .i 0⟩ ts'' k2 → Keep V.mut s.heap h' → Wrl w V i (z + 1) ts'' (fun k => if k = (k2 : Int) then some (fun i => (A i * x.1).fdiv x.2) else wt k) (fun k => if k = (k2 : Int) then some [j] else bl k) h' → Q (.int (k2 : Int) tk) { s with heap := h', toks := tk' }) :
    wpAny (model PySem.Challenge.rw_sj0101_01.row.prog w) (AR dp un fr gd) (call (.ref 773) [.ref V.woA, .ref a, .int j jt]) Q E s := by
  have X₀ := G.X
  revert X₀
  k_fill
  intro X₀
  clear X₀
  have xall := Z.ex
  have Z0 := Z
  refine Wrl.open vok Z hhi fun o1 o2 o3 k2 k3 R7 Z Fd BL ND nd nt => ?_
  have W1 := Z.wtAt j
  rw [w1] at W1
  obtain ⟨a1, vs1, m1, W1, V1, G1, S1⟩ := W1
  refine call_JC (n := 17) _ [((Str.ofString "world"), .ref V.woA), ((Str.ofString "value"), .ref a), ((Str.ofString "part"), .int j jt)] (fun L => [(L + 1, some (.ref a))]) [((Str.ofString "part"), .int j jt), ((Str.ofString "world"), .ref V.woA)] R G kp ND nd ?_ (hvn := fun L => by simp)
  intro c G R he en cells hc
  obtain ⟨oC, hoC, rfl⟩ := hc.one
  have tk0 := en.tup ND nt
  have Bk := BL.bk c tk0
  have ha := tk0 _ _ _ _ ha rfl rfl
  have g1 := lists_at (en.gs _ _ (V.led_off BL V1) G1)
  have d1 := Z.d1
  have d2 := Z.d2
  have d3 := Z.d3
  have hl2 := Z.l2
  have hl3 := Z.l3
  have hx0 : x.2 ≠ 0 := (Int.ne_of_lt hq.1).symm
  have hlg : x.2.natAbs.log2 < 9000 := Nat.lt_of_le_of_lt (Nat.log2_le_self _) (by lia)
  dsimp only [List.cons_append, List.nil_append, Vd.led]
  k_with "times_MLawTimes" => ((with_reducible refine (?_ : J _ _ _ _ (getMethod (Value.ref V.W.bA) _ _) _)); refine J.methB (by assumption) Bk (by k_extra "sub") (by k_get) (by k_is) (by k_is) (by k_is) ?_)
  by_cases e1 : x = (1, 1)
  · k_with "times_MLawTimes" => ((with_reducible refine (?_ : J _ _ _ _ (PySem.call (.ref 485) _) _)); refine J.times1 G R vok.wok Bk (by k_extra "sub") ha hp hq h0 h1 ht ho hs vok.base hw (by lia) e1 ?_)
    repeat' (first | k_extra "times_MLawTimes" | k_extra "law" | k_extra "j")
    intro h9 tk9 O9 K9
    have K0 := keep0 K9 ND O9 (fun p hp => .tail _ hp)
    exact hone e1 _ _ (K0.mono fun _ h => nomatch h) (Z0.all K0)
  · k_with "times_MLawTimes" => ((with_reducible refine (?_ : J _ _ _ _ (PySem.call (.ref 485) _) _)); refine J.timesN G R vok.wok Bk (.keep (NotTup.cell hoC) (.keep NotTup.ls (.keep (NotTup.dict d1) (.keep (NotTup.dict d2) (.keep (NotTup.dict d3) .nil))))) ha hp hq h0 h1 ht ho hs vok.base hw (by lia) e1 ?_; intro k8 k9 tk9 ts8 ts9 R9 M8 M9 B9; have ne9 := times_ne M8 M9 h0 ht hal; dsimp only [List.cons_append, List.nil_append])
    k_with "times_MLawTimes" => ((with_reducible refine (?_ : J _ _ _ _ (subscriptTail _ _ (Value.ref _) (Value.int j _)) _)); refine J.kitemA (PySem.intKind PR _) _ (by k_extra "nth") d2 (intKind_is _ _ _ _) W1 ?_)
    k_with "times_MLawTimes" => ((with_reducible refine J.compI (by assumption) (fun i => (A i * x.1).fdiv x.2) (n := 6) (by decide) (by with_unfolding_all rfl) ?_))
    k_with "times_MLawTimes" => ((with_reducible refine (?_ : KCompI _ _ _ _ _ _ _ _ _ _ _ _ _ _ _)); refine ⟨rfl, rfl, _, _, rfl, .inl g1, S1.1, fun i9 v9 I9 oI9 C9 oC9 D9 ys9 m9 hv9 hn9 hx9 => Six.turn S1 hv9 fun t8 e8 => ?_, fun ys9 D9 hy9 => ?_⟩)
    k_with "times_MLawTimes" => ((with_reducible refine (?_ : J _ _ _ _ (binaryOp .Mult _ _) _)); refine J.mulInt (mulAt S1 hm (by assumption)) ?_; intro t_l)
    k_with "times_MLawTimes" => ((with_reducible refine (?_ : J _ _ _ _ (eval (.Name _ _) (compEnvC _ _ _ _)) _)); first | refine J.nameF _ (by rfl) (by k_extra "nth") (by assumption) ?_ | (subst_vars; refine J.nameN _ (by k_extra "nth") (by assumption) (by assumption) ?_))
    k_with "times_MLawTimes" => ((with_reducible refine (?_ : KElt _ _ _ _ _ _)); exact ⟨rfl, _, rfl, [], rfl⟩)
    repeat' (first | k_extra "times_MLawTimes" | k_extra "law" | k_extra "j")
    intro h9 tk9 O9 K9
    rename BkD w _ V.W _ _ => B9
    rename Obj.IsDictOf _ _ (stored k2 _ _) => E2
    rename Obj.IsDictOf _ _ (stored k3 _ _) => E3
    have fin := Wrl.fin (pre := [_, _, _]) vok Z Fd xall BL ND en O9 B9 K9 E2 E3 (.tail _ (.head _)) (Six.of (by assumption)) (.head _) (IntsAre.cons _ _ IntsAre.nil)
    exact hret e1 _ _ _ _ _ _ _ (by assumption) (by assumption) fin.1 fin.2
end
end Mine

open PySem PySem.W PySem.Calls PyProof.Rows
set_option Elab.async false
set_option linter.all false
set_option maxRecDepth 100000
set_option maxHeartbeats 40000000
namespace Mine
set_option genInjectivity false in
set_option genSizeOf false in
structure WObj where
  os : Array Value
  as : Array Value
  ss : Array Value
  ds : Array Value
  n1 : Nat
  n2 : Nat
  n3 : Nat
  n4 : Nat
  es : List DictEntry
  ep : Nat
  xs : List (Tm × Addr × Value)
  fo : Obj
  cv : Array Value
  cn : Nat
  o1 : Obj
  o2 : Obj
  o3 : Obj
  k2 : List (Int × Value)
  k3 : List (Int × Value)
noncomputable abbrev WObj.led (w : World) (V : Vd) (o : WObj) : List (Addr × Obj) :=
  [(V.W.dA, dictOf (bankEs w V.W) 14), (V.W.bA, instObj 656 V.W.dA), (V.W.oA, lsO o.os o.n1), (V.W.aA, lsO o.as o.n2), (V.W.soA, lsO o.ss o.n3), (V.W.daA, lsO o.ds o.n4), (V.W.nA, dictOf o.es o.ep),
   (V.feA, o.fo), (V.ceA, lsO o.cv o.cn), (V.ptA, V.pts), (V.woA, o.o1), (V.wtA, o.o2), (V.blA, o.o3)]
structure WrlAt (w : World) (V : Vd) (i z : Nat) (ts : List Tm) (wt : Int → Option (Nat → Int)) (bl : Int → Option (List Int)) (o : WObj) (h : Heap) : Prop where
  core : CoreAt w V.W ts o.os o.as o.ss o.ds o.n1 o.n2 o.n3 o.n4 o.es o.ep o.xs h
  cells : ∃ ns, IntsAre o.cv.toList ns ∧ o.cv.size ≤ 100
  feed : FeedO w V.ceA i o.fo
  d1 : o.o1.IsDictOf (PySem.strKind PR w) V.worldEs
  d2 : o.o2.IsDictOf (PySem.intKind PR w) o.k2
  d3 : o.o3.IsDictOf (PySem.intKind PR w) o.k3
  wtAt : WtAt V h o.k2 wt
  blAt : BlAt V h o.k3 bl
  l2 : o.k2.length ≤ z
  l3 : o.k3.length ≤ z
  ex : ExAt V h
  at_ : ∀ p ∈ o.led w V, h.get? p.1 = some p.2
theorem Wrl.toAt {w : World} {V : Vd} {i z : Nat} {ts : List Tm} {wt : Int → Option (Nat → Int)} {bl : Int → Option (List Int)} {h : Heap} (Z : Wrl w V i z ts wt bl h) : ∃ o, WrlAt w V i z ts wt bl o h := by
  obtain ⟨B, ⟨⟨vs, ns, n, hc, hin, hsz⟩, ⟨fo, hf, ht⟩⟩, ⟨o1, o2, o3, k2, k3, Z⟩⟩ := Z
  obtain ⟨os, as, ss, ds, n1, n2, n3, n4, nes, nep, xs, C⟩ := B.core
  refine ⟨⟨os, as, ss, ds, n1, n2, n3, n4, nes, nep, xs, fo, vs, n, o1, o2, o3, k2, k3⟩, ⟨C, ⟨ns, hin, hsz⟩, ht, Z.d1, Z.d2, Z.d3, Z.wtAt, Z.blAt, Z.l2, Z.l3, Z.ex, ?_⟩⟩
  intro p hp
  simp only [List.mem_cons, List.not_mem_nil, or_false] at hp
  rcases hp with rfl | rfl | rfl | rfl | rfl | rfl | rfl | rfl | rfl | rfl | rfl | rfl | rfl
  · exact B.dict
  · exact B.inst
  · exact C.ops
  · exact C.args
  · exact C.sorts
  · exact C.datas
  · exact C.nums
  · exact hf
  · exact hc
  · exact Z.pts
  · exact Z.wo
  · exact Z.wtg
  · exact Z.blg
theorem WrlAt.toWrl {w : World} {V : Vd} {i z : Nat} {ts : List Tm} {wt : Int → Option (Nat → Int)} {bl : Int → Option (List Int)} {o : WObj} {h : Heap} (Z : WrlAt w V i z ts wt bl o h) : Wrl w V i z ts wt bl h := by
  have a := Z.at_
  simp only [WObj.led, List.forall_mem_cons] at a
  obtain ⟨a1, a2, a3, a4, a5, a6, a7, a8, a9, a10, a11, a12, a13, _⟩ := a
  obtain ⟨ns, c1, c2⟩ := Z.cells
  exact ⟨⟨a2, a1, ⟨_, _, _, _, _, _, _, _, _, _, _, Z.core⟩⟩, ⟨⟨_, ns, _, a9, c1, c2⟩, ⟨_, a8, Z.feed⟩⟩, ⟨_, _, _, _, _, ⟨a10, a11, a12, a13, Z.d1, Z.d2, Z.d3, Z.wtAt, Z.blAt, Z.l2, Z.l3, Z.ex⟩⟩⟩
theorem WrlAt.nt {w : World} {V : Vd} {i z : Nat} {ts : List Tm} {wt : Int → Option (Nat → Int)} {bl : Int → Option (List Int)} {o : WObj} {h : Heap} (Z : WrlAt w V i z ts wt bl o h) : ∀ p ∈ o.led w V, NotTup p.2 := by
  intro p hp
  obtain ⟨t, hf⟩ := Z.feed
  simp only [List.mem_cons, List.not_mem_nil, or_false] at hp
  rcases hp with rfl | rfl | rfl | rfl | rfl | rfl | rfl | rfl | rfl | rfl | rfl | rfl | rfl
  · exact .inl (by simp)
  · exact .inl (by simp)
  · exact .ls
  · exact .ls
  · exact .ls
  · exact .ls
  · exact .inl (by simp)
  · exact .dict hf
  · exact .ls
  · exact .ls
  · exact .dict Z.d1
  · exact .dict Z.d2
  · exact .dict Z.d3
theorem WrlAt.later {w : World} {V : Vd} {i z : Nat} {ts : List Tm} {wt : Int → Option (Nat → Int)} {bl : Int → Option (List Int)} {o : WObj} {h h' : Heap} (Z : WrlAt w V i z ts wt bl o h) (k : SeqKeep V.all h h') (a : ∀ p ∈ o.led w V, h'.get? p.1 = some p.2) : WrlAt w V i z ts wt bl o h' := by
  have tk : TupKeep h h' := by
    intro b ob xs n e hc hd
    refine k b ob xs n (fun q => ?_) hd e
    have : b ∈ (o.led w V).map (·.1) := q
    obtain ⟨p, hp, rfl⟩ := List.mem_map.mp this
    have h1 := Z.at_ p hp
    rw [h1] at e; cases e
    rcases Z.nt p hp with h2 | h2
    · exact h2 hc
    · exact h2 _ _ hd
  have b := a
  simp only [WObj.led, List.forall_mem_cons] at b
  obtain ⟨a1, a2, a3, a4, a5, a6, a7, a8, a9, a10, a11, a12, a13, _⟩ := b
  exact ⟨Z.core.tup tk a3 a4 a5 a6 a7, Z.cells, Z.feed, Z.d1, Z.d2, Z.d3, Z.wtAt.keeps k, Z.blAt.keeps k, Z.l2, Z.l3, Z.ex.keeps k, a⟩
inductive KpV (V : Vd) : List (Addr × Obj) → List (Addr × Obj) → Prop
  | nil {l} : KpV V l []
  | keep {a o r X} : V.blA < a → NotTup o → KpV V r X → KpV V ((a, o) :: r) ((a, o) :: X)
  | drop {p r X} : KpV V r X → KpV V (p :: r) X
theorem mut_all {V : Vd} : ∀ a ∈ V.mut, a ∈ V.all := by
  intro a ha
  simp only [Vd.mut, Vd.all, List.mem_cons, List.not_mem_nil, or_false] at ha ⊢
  rcases ha with h | h | h | h | h | h | h | h <;> simp [h]
end Mine

open PySem PySem.W PySem.Calls PyProof.Rows
set_option Elab.async false
set_option linter.all false
set_option maxRecDepth 100000
set_option maxHeartbeats 40000000
namespace Mine
noncomputable abbrev S48 : Int := 6 ^ 48
set_option genInjectivity false in
set_option genSizeOf false in
structure Sg where
  ts : List Tm
  wt : Int → Option (Nat → Int)
  bl : Int → Option (List Int)
  val : Int → Nat → Int
  lv : Int → Nat
  ms : Int → Nat
noncomputable abbrev numT (base : Int) (x : Int × Int) : Tm := ⟨Str.ofString "num", [], base, .r x.1 x.2⟩
inductive Trm (base : Int) (σ : Sg) (k : Int) : Prop
  | num (x : Int × Int) (hx : x ∈ nums) (ht : σ.ts[k.toNat]? = some (numT base x)) (hv : ∀ i, σ.val k i * x.2 = S48 * x.1) (hw : σ.wt k = none ∨ σ.wt k = some (σ.val k)) (hb : σ.bl k = none ∨ σ.bl k = some []) (hl : σ.lv k = 1) (hm : σ.ms k = 5)
  | plus (args : List Int) (ha : args.length = 2 ∨ args.length = 3) (hlt : ∀ a ∈ args, 3 ≤ a ∧ a < k) (ht : σ.ts[k.toNat]? = some ⟨Str.ofString "+", args, base, .i 0⟩) (hv : ∀ i, σ.val k i = (args.map fun a => σ.val a i).sum)
      (hw : σ.wt k = some (σ.val k)) (hb : σ.bl k = some args) (hl : σ.lv k = args.foldr (fun a m => max (σ.lv a) m) 0) (hm : σ.ms k = (args.map σ.ms).sum)
  | times (x : Int × Int) (hx : x ∈ nums) (a b : Int) (hab : 3 ≤ a ∧ a < k ∧ 3 ≤ b ∧ b < k) (hn : σ.ts[a.toNat]? = some (numT base x)) (ht : σ.ts[k.toNat]? = some ⟨Str.ofString "*", [a, b], base, .i 0⟩)
      (hv : ∀ i, σ.val k i * x.2 = σ.val b i * x.1) (hw : σ.wt k = some (σ.val k)) (hb : σ.bl k = some [b]) (hl : σ.lv k = σ.lv b + 1) (hm : σ.ms k = 5 * σ.ms b)
structure Sem (base : Int) (pt : Nat → Int → Int) (σ : Sg) : Prop where
  len : 7 ≤ σ.ts.length
  lo : ∀ (k : Nat) t, k < 3 → σ.ts[k]? = some t → t.op ≠ Str.ofString "num" ∧ t.op ≠ Str.ofString "+" ∧ t.op ≠ Str.ofString "*"
  u3 : σ.ts[3]? = some ⟨(Str.ofString "app"), [], base, .i 0⟩
  u4 : σ.ts[4]? = some ⟨(Str.ofString "app"), [], base, .i 1⟩
  u5 : σ.ts[5]? = some ⟨(Str.ofString "app"), [3], base, .i 2⟩
  u6 : σ.ts[6]? = some ⟨Str.ofString "*", [3, 4], base, .i 0⟩
  out : ∀ k : Int, (σ.ts.length : Int) ≤ k → σ.wt k = none ∧ σ.bl k = none
  unk : ∀ k : Int, 3 ≤ k → k < 7 → σ.wt k = some (σ.val k) ∧ (∀ i, σ.val k i = S48 * pt i k) ∧ (σ.bl k = none ∨ σ.bl k = some []) ∧ σ.lv k = 0 ∧ σ.ms k = 1
  trm : ∀ k : Int, 7 ≤ k → k < σ.ts.length → Trm base σ k
  ptb : ∀ i k, -1000 ≤ pt i k ∧ pt i k ≤ 1000
structure Sg.Le (σ σ' : Sg) : Prop where
  len : σ.ts.length ≤ σ'.ts.length
  ts : ∀ (k : Nat) t, σ.ts[k]? = some t → σ'.ts[k]? = some t
  val : ∀ k : Int, k < σ.ts.length → σ'.val k = σ.val k
  lv : ∀ k : Int, k < σ.ts.length → σ'.lv k = σ.lv k
  ms : ∀ k : Int, k < σ.ts.length → σ'.ms k = σ.ms k
  wt : ∀ k c, σ.wt k = some c → σ'.wt k = some c
  bl : ∀ k l, σ.bl k = some l → σ'.bl k = some l
  wt2 : ∀ k : Int, k < σ.ts.length → σ'.wt k = σ.wt k ∨ σ'.wt k = some (σ.val k)
  bl2 : ∀ k : Int, k < σ.ts.length → σ'.bl k = σ.bl k ∨ σ'.bl k = some []
theorem Sg.Le.refl (σ : Sg) : σ.Le σ := ⟨Nat.le_refl _, fun _ _ h => h, fun _ _ => rfl, fun _ _ => rfl, fun _ _ => rfl, fun _ _ h => h, fun _ _ h => h, fun _ _ => .inl rfl, fun _ _ => .inl rfl⟩
theorem Sg.Le.trans {σ σ' σ'' : Sg} (a : σ.Le σ') (b : σ'.Le σ'') : σ.Le σ'' := by
  have le : ∀ k : Int, k < σ.ts.length → k < σ'.ts.length := fun k h => by have := a.len; lia
  refine ⟨Nat.le_trans a.len b.len, fun k t h => b.ts k t (a.ts k t h), fun k h => (b.val k (le k h)).trans (a.val k h), fun k h => (b.lv k (le k h)).trans (a.lv k h), fun k h => (b.ms k (le k h)).trans (a.ms k h), fun k c h => b.wt k c (a.wt k c h), fun k c h => b.bl k c (a.bl k c h), fun k h => ?_, fun k h => ?_⟩
  · rcases b.wt2 k (le k h) with q | q
    · rw [q]; exact a.wt2 k h
    · exact .inr (by rw [q, a.val k h])
  · rcases b.bl2 k (le k h) with q | q
    · rw [q]; exact a.bl2 k h
    · exact .inr q
theorem map_congr' {α β : Type} {f g : α → β} {l : List α} (h : ∀ a ∈ l, f a = g a) : l.map f = l.map g := List.map_congr_left h
theorem foldr_congr' {f g : Int → Nat} {l : List Int} (h : ∀ a ∈ l, f a = g a) : l.foldr (fun a m => max (f a) m) 0 = l.foldr (fun a m => max (g a) m) 0 := by
  induction l with
  | nil => rfl
  | cons a l ih => simp only [List.foldr_cons]; rw [ih fun x hx => h x (.tail _ hx), h a (.head _)]
theorem Trm.ext {base : Int} {σ σ' : Sg} {k : Int} (L : σ.Le σ') (hk : k < σ.ts.length) (h : Trm base σ k) : Trm base σ' k := by
  cases h with
  | num x hx ht hv hw hb hl hm =>
    refine .num x hx (L.ts _ _ ht) (fun i => by rw [L.val k hk]; exact hv i) ?_ ?_ (by rw [L.lv k hk]; exact hl) (by rw [L.ms k hk]; exact hm)
    · rw [L.val k hk]
      rcases L.wt2 k hk with q | q
      · rw [q]; exact hw
      · exact .inr q
    · rcases L.bl2 k hk with q | q
      · rw [q]; exact hb
      · exact .inr q
  | plus args ha hlt ht hv hw hb hl hm =>
    have lt : ∀ a ∈ args, a < σ.ts.length := fun a q => by have := hlt a q; lia
    refine .plus args ha hlt (L.ts _ _ ht) (fun i => ?_) (by rw [L.val k hk]; exact L.wt _ _ hw) (L.bl _ _ hb) ?_ ?_
    · rw [L.val k hk, hv i]
      exact congrArg _ (map_congr' fun a q => by rw [L.val a (lt a q)])
    · rw [L.lv k hk, hl]
      exact foldr_congr' fun a q => by rw [L.lv a (lt a q)]
    · rw [L.ms k hk, hm]
      exact congrArg _ (map_congr' fun a q => by rw [L.ms a (lt a q)])
  | times x hx a b hab hn ht hv hw hb hl hm =>
    have lb : b < σ.ts.length := by lia
    exact .times x hx a b hab (L.ts _ _ hn) (L.ts _ _ ht) (fun i => by rw [L.val k hk, L.val b lb]; exact hv i) (by rw [L.val k hk]; exact L.wt _ _ hw) (L.bl _ _ hb)
      (by rw [L.lv k hk, L.lv b lb]; exact hl) (by rw [L.ms k hk, L.ms b lb]; exact hm)
theorem Sem.ext {base : Int} {pt : Nat → Int → Int} {σ σ' : Sg} (X : Sem base pt σ) (L : σ.Le σ') (hn : ∀ k : Int, (σ.ts.length : Int) ≤ k → k < σ'.ts.length → Trm base σ' k)
    (ho : ∀ k : Int, (σ'.ts.length : Int) ≤ k → σ'.wt k = none ∧ σ'.bl k = none) : Sem base pt σ' := by
  have hl := X.len
  refine ⟨Nat.le_trans hl L.len, fun k t hk e => ?_, L.ts _ _ X.u3, L.ts _ _ X.u4, L.ts _ _ X.u5, L.ts _ _ X.u6, ho, fun k h3 h7 => ?_, fun k h7 hk => ?_, X.ptb⟩
  · have hk' : k < σ.ts.length := by lia
    have e' := L.ts k _ (List.getElem?_eq_getElem hk')
    rw [e'] at e
    exact X.lo k t hk (by rw [List.getElem?_eq_getElem hk']; exact e)
  · have hk : k < σ.ts.length := by lia
    obtain ⟨h1, h2, h4, h5, h6⟩ := X.unk k h3 h7
    refine ⟨by rw [L.val k hk]; exact L.wt _ _ h1, fun i => by rw [L.val k hk]; exact h2 i, ?_, by rw [L.lv k hk]; exact h5, by rw [L.ms k hk]; exact h6⟩
    rcases L.bl2 k hk with q | q
    · rw [q]; exact h4
    · exact .inr q
  · by_cases q : k < σ.ts.length
    · exact (X.trm k h7 q).ext L q
    · exact hn k (by lia) hk
theorem Sem.found {base : Int} {pt : Nat → Int → Int} {σ : Sg} (X : Sem base pt σ) {k : Nat} {t : Tm} (e : σ.ts[k]? = some t)
    (ho : t.op = Str.ofString "num" ∨ t.op = Str.ofString "+" ∨ t.op = Str.ofString "*" ∧ t.args ≠ [3, 4]) : 7 ≤ k := by
  by_cases h : k < 3
  · obtain ⟨h1, h2, h3⟩ := X.lo k t h e
    rcases ho with q | q | q
    · exact absurd q h1
    · exact absurd q h2
    · exact absurd q.1 h3
  · by_cases h7 : k < 7
    · have : k = 3 ∨ k = 4 ∨ k = 5 ∨ k = 6 := by lia
      rcases this with rfl | rfl | rfl | rfl
      · rw [X.u3] at e; cases e; simp at ho
        rcases ho with q | q | q <;> exact absurd q (by decide)
      · rw [X.u4] at e; cases e; simp at ho
        rcases ho with q | q | q <;> exact absurd q (by decide)
      · rw [X.u5] at e; cases e; simp at ho
        rcases ho with q | q | q <;> exact absurd q (by decide)
      · rw [X.u6] at e; cases e; simp at ho
        rcases ho with q | q <;> exact absurd q (by decide)
    · lia
noncomputable def upd {α : Type} (f : Int → α) (k : Int) (v : α) : Int → α := fun j => if j = k then v else f j
theorem upd_same {α : Type} {f : Int → α} {k : Int} {v : α} : upd f k v k = v := if_pos rfl
theorem upd_ne {α : Type} {f : Int → α} {k j : Int} {v : α} (h : j ≠ k) : upd f k v j = f j := if_neg h
noncomputable abbrev Sg.push (σ : Sg) (t : Tm) (v : Nat → Int) (n m : Nat) : Sg := ⟨σ.ts ++ [t], σ.wt, σ.bl, upd σ.val σ.ts.length v, upd σ.lv σ.ts.length n, upd σ.ms σ.ts.length m⟩
noncomputable abbrev Sg.store (σ : Sg) (k : Int) (l : List Int) : Sg := ⟨σ.ts, upd σ.wt k (some (σ.val k)), upd σ.bl k (some l), σ.val, σ.lv, σ.ms⟩
theorem Sg.le_push (σ : Sg) (t : Tm) (v : Nat → Int) (n m : Nat) : σ.Le (σ.push t v n m) :=
  ⟨by simp, fun k t h => by
    show (σ.ts ++ _)[k]? = _
    rw [List.getElem?_append_left (List.getElem?_eq_some_iff.mp h).1]; exact h, fun k h => upd_ne (by lia), fun k h => upd_ne (by lia), fun k h => upd_ne (by lia), fun _ _ h => h, fun _ _ h => h, fun _ _ => .inl rfl, fun _ _ => .inl rfl⟩
theorem Sg.le_store (σ : Sg) (k : Int) (l : List Int) (hw : σ.wt k = none ∨ σ.wt k = some (σ.val k)) (hb : σ.bl k = none ∨ σ.bl k = some l) (hl : k < σ.ts.length → σ.bl k = some l ∨ l = []) : σ.Le (σ.store k l) := by
  refine ⟨Nat.le_refl _, fun _ _ h => h, fun _ _ => rfl, fun _ _ => rfl, fun _ _ => rfl, fun j c h => ?_, fun j c h => ?_, fun j hj => ?_, fun j hj => ?_⟩
  · by_cases e : j = k
    · subst e
      rw [h] at hw
      show upd _ _ _ _ = _
      rw [upd_same]
      rcases hw with q | q
      · cases q
      · exact q.symm
    · show upd _ _ _ _ = _
      rw [upd_ne e]; exact h
  · by_cases e : j = k
    · subst e
      rw [h] at hb
      show upd _ _ _ _ = _
      rw [upd_same]
      rcases hb with q | q
      · cases q
      · exact q.symm
    · show upd _ _ _ _ = _
      rw [upd_ne e]; exact h
  · by_cases e : j = k
    · subst e
      exact .inr upd_same
    · exact .inl (upd_ne e)
  · by_cases e : j = k
    · subst e
      rcases hl hj with q | q
      · exact .inl (by rw [q]; exact upd_same)
      · exact .inr (by rw [← q]; exact upd_same)
    · exact .inl (upd_ne e)
end Mine

open PySem PySem.W PySem.Calls PyProof.Rows
set_option Elab.async false
set_option linter.all false
set_option maxRecDepth 100000
set_option maxHeartbeats 40000000
namespace Mine
theorem nums_pos : ∀ x ∈ nums, 0 < x.2 ∧ x.2 ≤ 3 ∧ -5 ≤ x.1 ∧ x.1 ≤ 5 := by decide
theorem nums_six : ∀ x ∈ nums, ∃ r : Int, 6 = r * x.2 := by
  intro x hx
  have h : x.2 = 1 ∨ x.2 = 2 ∨ x.2 = 3 := by have := nums_pos x hx; lia
  rcases h with h | h | h
  · exact ⟨6, by rw [h]; decide⟩
  · exact ⟨3, by rw [h]; decide⟩
  · exact ⟨2, by rw [h]; decide⟩
theorem part_exact {x : Int × Int} (hx : x ∈ nums) {d : Int} {n : Nat} (h : (6 : Int) ^ (n + 1) ∣ d) : (d * x.1).fdiv x.2 * x.2 = d * x.1 ∧ (6 : Int) ^ n ∣ (d * x.1).fdiv x.2 := by
  obtain ⟨e, rfl⟩ := h
  obtain ⟨r, hr⟩ := nums_six x hx
  have hp := (nums_pos x hx).1
  have e1 : (6 : Int) ^ (n + 1) * e * x.1 = (6 ^ n * (r * e * x.1)) * x.2 := by
    rw [Int.pow_succ]
    have : (6 : Int) ^ n * 6 * e * x.1 = 6 ^ n * (r * x.2) * e * x.1 := by rw [← hr]
    rw [this]; ac_rfl
  rw [e1, Int.mul_fdiv_cancel _ (by lia)]
  exact ⟨rfl, _, rfl⟩
theorem exact_dvd {x : Int × Int} (hx : x ∈ nums) {c d : Int} {n : Nat} (h : (6 : Int) ^ (n + 1) ∣ d) (e : c * x.2 = d * x.1) : (6 : Int) ^ n ∣ c := by
  have hp := (nums_pos x hx).1
  have h1 := part_exact hx h
  have : c = (d * x.1).fdiv x.2 := by rw [← e, Int.mul_fdiv_cancel _ (by lia)]
  rw [this]; exact h1.2
theorem sum_dvd {f : Int → Int} {d : Int} : ∀ {l : List Int}, (∀ a ∈ l, d ∣ f a) → d ∣ (l.map f).sum
  | [], _ => ⟨0, by simp⟩
  | a :: l, h => by
    rw [List.map_cons, List.sum_cons]
    exact Int.dvd_add (h a (.head _)) (sum_dvd fun x hx => h x (.tail _ hx))
theorem le_foldr {f : Int → Nat} : ∀ {l : List Int} {a : Int}, a ∈ l → f a ≤ l.foldr (fun a m => max (f a) m) 0
  | b :: l, a, h => by
    rw [List.foldr_cons]
    rcases List.mem_cons.mp h with rfl | h
    · exact Nat.le_max_left _ _
    · exact Nat.le_trans (le_foldr h) (Nat.le_max_right _ _)
theorem pow_dvd6 {a b : Nat} (h : a ≤ b) : (6 : Int) ^ a ∣ 6 ^ b := ⟨6 ^ (b - a), by rw [← Int.pow_add]; congr 1; lia⟩
theorem Sem.dvd {base : Int} {pt : Nat → Int → Int} {σ : Sg} (X : Sem base pt σ) : ∀ (n : Nat) (k : Int), k.toNat < n → 3 ≤ k → k < σ.ts.length → ∀ i, (6 : Int) ^ (48 - σ.lv k) ∣ σ.val k i
  | 0, _, h, _, _ => nomatch h
  | n + 1, k, hn, h3, hk => fun i => by
    by_cases h7 : k < 7
    · obtain ⟨_, h2, _, h4, _⟩ := X.unk k h3 h7
      rw [h4, h2 i]
      exact ⟨_, rfl⟩
    · cases X.trm k (by lia) hk with
      | num x hx ht hv hw hb hl hm =>
        rw [hl]
        exact exact_dvd hx (Int.dvd_refl _) (hv i)
      | plus args ha hlt ht hv hw hb hl hm =>
        rw [hv i]
        refine sum_dvd fun a q => ?_
        have := hlt a q
        refine Int.dvd_trans (pow_dvd6 ?_) (X.dvd n a (by lia) this.1 (by lia) i)
        have : σ.lv a ≤ _ := le_foldr q
        lia
      | times x hx a b hab hn' ht hv hw hb hl hm =>
        have h1 := X.dvd n b (by lia) (by lia) (by lia) i
        rw [hl]
        by_cases q : 48 ≤ σ.lv b
        · rw [show 48 - (σ.lv b + 1) = 0 by lia]
          exact ⟨_, (Int.one_mul _).symm⟩
        · rw [show 48 - σ.lv b = (48 - (σ.lv b + 1)) + 1 by lia] at h1
          exact exact_dvd hx h1 (hv i)
theorem sum_abs {f : Int → Int} {g : Int → Nat} {B : Nat} : ∀ {l : List Int}, (∀ a ∈ l, (f a).natAbs ≤ B * g a) → ((l.map f).sum).natAbs ≤ B * (l.map g).sum
  | [], _ => by simp
  | a :: l, h => by
    simp only [List.map_cons, List.sum_cons]
    have h1 := h a (.head _)
    have h2 := sum_abs (f := f) (g := g) (B := B) fun x hx => h x (.tail _ hx)
    have h3 := Int.natAbs_add_le (f a) ((l.map f).sum)
    rw [Nat.mul_add]; lia
theorem mul_abs {x : Int × Int} (hx : x ∈ nums) {c d : Int} (h : c * x.2 = d * x.1) : c.natAbs ≤ 5 * d.natAbs := by
  obtain ⟨h1, h2, h3, h4⟩ := nums_pos x hx
  have e : (c * x.2).natAbs = (d * x.1).natAbs := by rw [h]
  rw [Int.natAbs_mul, Int.natAbs_mul] at e
  have a1 : x.1.natAbs ≤ 5 := by lia
  have a2 : 1 ≤ x.2.natAbs := by lia
  calc c.natAbs = c.natAbs * 1 := (Nat.mul_one _).symm
    _ ≤ c.natAbs * x.2.natAbs := Nat.mul_le_mul_left _ a2
    _ = d.natAbs * x.1.natAbs := e
    _ ≤ d.natAbs * 5 := Nat.mul_le_mul_left _ a1
    _ = 5 * d.natAbs := Nat.mul_comm _ _
theorem Sem.abs {base : Int} {pt : Nat → Int → Int} {σ : Sg} (X : Sem base pt σ) : ∀ (n : Nat) (k : Int), k.toNat < n → 3 ≤ k → k < σ.ts.length → ∀ i, (σ.val k i).natAbs ≤ (6 ^ 48 * 1000) * σ.ms k
  | 0, _, h, _, _ => nomatch h
  | n + 1, k, hn, h3, hk => fun i => by
    by_cases h7 : k < 7
    · obtain ⟨_, h2, _, _, h4⟩ := X.unk k h3 h7
      rw [h4, h2 i, Int.natAbs_mul, Nat.mul_one]
      refine Nat.mul_le_mul (by decide) ?_
      have := X.ptb i k
      lia
    · cases X.trm k (by lia) hk with
      | num x hx ht hv hw hb hl hm =>
        have := mul_abs hx (hv i)
        rw [hm]
        have e : (S48).natAbs = 6 ^ 48 := by decide
        rw [e] at this
        refine Nat.le_trans this (by decide)
      | plus args ha hlt ht hv hw hb hl hm =>
        rw [hv i, hm]
        refine sum_abs fun a q => ?_
        have := hlt a q
        exact X.abs n a (by lia) this.1 (by lia) i
      | times x hx a b hab hn' ht hv hw hb hl hm =>
        have h1 := mul_abs hx (hv i)
        have h2 := X.abs n b (by lia) (by lia) (by lia) i
        rw [hm]
        calc _ ≤ 5 * (σ.val b i).natAbs := h1
          _ ≤ 5 * ((6 ^ 48 * 1000) * σ.ms b) := Nat.mul_le_mul_left _ h2
          _ = _ := by rw [← Nat.mul_assoc, Nat.mul_comm 5, Nat.mul_assoc]
theorem Trm.isNum {base : Int} {σ : Sg} {k : Int} (h : Trm base σ k) {x : Int × Int} (ht : σ.ts[k.toNat]? = some (numT base x)) :
    (∀ i, σ.val k i * x.2 = S48 * x.1) ∧ (σ.wt k = none ∨ σ.wt k = some (σ.val k)) ∧ (σ.bl k = none ∨ σ.bl k = some []) ∧ σ.lv k = 1 ∧ σ.ms k = 5 := by
  cases h with
  | num y hy ht' hv hw hb hl hm =>
    rw [ht] at ht'
    have e1 : x.1 = y.1 := by injection ht' with q; injection q with _ _ _ q; injection q
    have e2 : x.2 = y.2 := by injection ht' with q; injection q with _ _ _ q; injection q
    rw [e1, e2]
    exact ⟨hv, hw, hb, hl, hm⟩
  | plus args ha hlt ht' => rw [ht] at ht'; injection ht' with q; injection q with q; exact absurd q (by decide)
  | times y hy a b hab hn ht' => rw [ht] at ht'; injection ht' with q; injection q with q; exact absurd q (by decide)
theorem Trm.isPlus {base : Int} {σ : Sg} {k : Int} (h : Trm base σ k) {args : List Int} (ht : σ.ts[k.toNat]? = some ⟨Str.ofString "+", args, base, .i 0⟩) :
    (args.length = 2 ∨ args.length = 3) ∧ (∀ a ∈ args, 3 ≤ a ∧ a < k) ∧ (∀ i, σ.val k i = (args.map fun a => σ.val a i).sum) ∧ σ.wt k = some (σ.val k) ∧ σ.bl k = some args ∧ σ.lv k = args.foldr (fun a m => max (σ.lv a) m) 0 ∧ σ.ms k = (args.map σ.ms).sum := by
  cases h with
  | num y hy ht' => rw [ht] at ht'; injection ht' with q; injection q with q; exact absurd q (by decide)
  | plus args' ha hlt ht' hv hw hb hl hm =>
    rw [ht] at ht'
    have e : args = args' := by injection ht' with q; injection q
    subst e
    exact ⟨ha, hlt, hv, hw, hb, hl, hm⟩
  | times y hy a b hab hn ht' => rw [ht] at ht'; injection ht' with q; injection q with q; exact absurd q (by decide)
theorem Trm.isTimes {base : Int} {σ : Sg} {k : Int} (h : Trm base σ k) {a b : Int} {x : Int × Int} (hn : σ.ts[a.toNat]? = some (numT base x)) (ht : σ.ts[k.toNat]? = some ⟨Str.ofString "*", [a, b], base, .i 0⟩) :
    (∀ i, σ.val k i * x.2 = σ.val b i * x.1) ∧ σ.wt k = some (σ.val k) ∧ σ.bl k = some [b] ∧ σ.lv k = σ.lv b + 1 ∧ σ.ms k = 5 * σ.ms b := by
  cases h with
  | num y hy ht' => rw [ht] at ht'; injection ht' with q; injection q with q; exact absurd q (by decide)
  | plus args' ha hlt ht' => rw [ht] at ht'; injection ht' with q; injection q with q; exact absurd q (by decide)
  | times y hy a' b' hab hn' ht' hv hw hb hl hm =>
    rw [ht] at ht'
    have e : [a, b] = [a', b'] := by injection ht' with q; injection q
    injection e with ea eb
    injection eb with eb
    subst ea; subst eb
    rw [hn] at hn'
    have e1 : x.1 = y.1 := by injection hn' with q; injection q with _ _ _ q; injection q
    have e2 : x.2 = y.2 := by injection hn' with q; injection q with _ _ _ q; injection q
    rw [e1, e2]
    exact ⟨hv, hw, hb, hl, hm⟩
structure Grow (base : Int) (pt : Nat → Int → Int) (σ σ' : Sg) : Prop where
  sem : Sem base pt σ'
  le : σ.Le σ'
theorem Mk.len {ts ts' : List Tm} {t : Tm} {k : Nat} (M : Mk ts t ts' k) : k < ts'.length ∧ ts'.length ≤ ts.length + 1 := by
  refine ⟨(List.getElem?_eq_some_iff.mp M.at_).1, ?_⟩
  rcases M with ⟨rfl, _, _⟩ | ⟨_, rfl, _⟩
  · lia
  · simp
theorem Sem.num0 {base : Int} {pt : Nat → Int → Int} {σ : Sg} (X : Sem base pt σ) {x : Int × Int} (hx : x ∈ nums) {ts' : List Tm} {k : Nat} (M : Mk σ.ts (numT base x) ts' k) :
    ∃ σ', σ'.ts = ts' ∧ σ'.wt = σ.wt ∧ σ'.bl = σ.bl ∧ Grow base pt σ σ' ∧ 7 ≤ k := by
  rcases M with ⟨rfl, _, e⟩ | ⟨_, rfl, rfl⟩
  · exact ⟨σ, rfl, rfl, rfl, ⟨X, .refl σ⟩, X.found e (.inl rfl)⟩
  · refine ⟨σ.push (numT base x) (fun _ => (S48 * x.1).fdiv x.2) 1 5, rfl, rfl, rfl, ⟨X.ext (σ.le_push _ _ _ _) (fun k h1 h2 => ?_) fun k hk => X.out k (by simp at hk; lia), σ.le_push _ _ _ _⟩, X.len⟩
    have hk : k = (σ.ts.length : Int) := by simp at h2; lia
    subst hk
    refine .num x hx (by simp) (fun i => ?_) (.inl (X.out _ (Int.le_refl _)).1) (.inl (X.out _ (Int.le_refl _)).2) upd_same upd_same
    show upd σ.val _ _ _ i * _ = _
    rw [upd_same]
    exact (part_exact (n := 47) hx (Int.dvd_refl _)).1
theorem Sem.num1 {base : Int} {pt : Nat → Int → Int} {σ : Sg} (X : Sem base pt σ) {x : Int × Int} (hx : x ∈ nums) {k : Nat} (h7 : 7 ≤ k) (e : σ.ts[k]? = some (numT base x)) {c : Nat → Int} (hc : ∀ i, c i = (S48 * x.1).fdiv x.2) :
    c = σ.val k ∧ Grow base pt σ (σ.store k []) := by
  have hk := (List.getElem?_eq_some_iff.mp e).1
  obtain ⟨hv, hw, hb, hl, hm⟩ := (X.trm k (by lia) (by lia)).isNum (x := x) (by simpa using e)
  have hp := (nums_pos x hx).1
  refine ⟨funext fun i => by rw [hc, ← hv i, Int.mul_fdiv_cancel _ (by lia)], ?_⟩
  have L := σ.le_store k [] hw hb fun _ => .inr rfl
  exact ⟨X.ext L (fun j h1 h2 => by exfalso; simp at h2; lia) fun j hj => by
    have := X.out j hj
    simp at hj
    show upd _ _ _ _ = _ ∧ upd _ _ _ _ = _
    rw [upd_ne (by lia), upd_ne (by lia)]; exact this, L⟩
noncomputable abbrev Sg.new (σ : Sg) (t : Tm) (v : Nat → Int) (n m : Nat) (l : List Int) : Sg :=
  ⟨σ.ts ++ [t], upd σ.wt σ.ts.length (some v), upd σ.bl σ.ts.length (some l), upd σ.val σ.ts.length v, upd σ.lv σ.ts.length n, upd σ.ms σ.ts.length m⟩
theorem Sem.le_new {base : Int} {pt : Nat → Int → Int} {σ : Sg} (X : Sem base pt σ) (t : Tm) (v : Nat → Int) (n m : Nat) (l : List Int) : σ.Le (σ.new t v n m l) := by
  have ho := X.out _ (Int.le_refl _)
  refine ⟨by simp, fun k t h => by
    show (σ.ts ++ _)[k]? = _
    rw [List.getElem?_append_left (List.getElem?_eq_some_iff.mp h).1]; exact h, fun k h => upd_ne (by lia), fun k h => upd_ne (by lia), fun k h => upd_ne (by lia), fun k c h => ?_, fun k c h => ?_, fun k h => .inl (upd_ne (by lia)), fun k h => .inl (upd_ne (by lia))⟩
  · refine (upd_ne ?_).trans h
    rintro rfl; rw [ho.1] at h; cases h
  · refine (upd_ne ?_).trans h
    rintro rfl; rw [ho.2] at h; cases h
theorem Sem.new {base : Int} {pt : Nat → Int → Int} {σ : Sg} (X : Sem base pt σ) (t : Tm) (v : Nat → Int) (n m : Nat) (l : List Int) (h : Trm base (σ.new t v n m l) (σ.ts.length : Int)) : Grow base pt σ (σ.new t v n m l) := by
  have L := X.le_new t v n m l
  refine ⟨X.ext L (fun j h1 h2 => ?_) (fun j hj => ?_), L⟩
  · have hk : j = (σ.ts.length : Int) := by simp at h2; lia
    subst hk; exact h
  · have hj' : (σ.ts.length : Int) + 1 ≤ j := by simpa using hj
    have := X.out j (by lia)
    show upd _ _ _ _ = _ ∧ upd _ _ _ _ = _
    rw [upd_ne (by lia), upd_ne (by lia)]; exact this
theorem Sem.old {base : Int} {pt : Nat → Int → Int} {σ : Sg} (X : Sem base pt σ) {k : Int} {l : List Int} (hk : k < σ.ts.length) (hw : σ.wt k = some (σ.val k)) (hb : σ.bl k = some l) : Grow base pt σ (σ.store k l) := by
  have L := σ.le_store k l (.inr hw) (.inr hb) fun _ => .inl hb
  refine ⟨X.ext L (fun j h1 h2 => by exfalso; simp at h2; lia) (fun j hj => ?_), L⟩
  have := X.out j hj
  simp at hj
  show upd _ _ _ _ = _ ∧ upd _ _ _ _ = _
  rw [upd_ne (by lia), upd_ne (by lia)]; exact this
theorem Sem.plus {base : Int} {pt : Nat → Int → Int} {σ : Sg} (X : Sem base pt σ) {args : List Int} (ha : args.length = 2 ∨ args.length = 3) (hlt : ∀ a ∈ args, 3 ≤ a ∧ a < σ.ts.length) {ts' : List Tm} {k : Nat} (M : Mk σ.ts ⟨Str.ofString "+", args, base, .i 0⟩ ts' k) {c : Nat → Int} (hc : ∀ i, c i = (args.map fun a => σ.val a i).sum) :
    ∃ σ', σ'.ts = ts' ∧ σ'.wt = upd σ.wt k (some c) ∧ σ'.bl = upd σ.bl k (some args) ∧ Grow base pt σ σ' ∧ 7 ≤ k := by
  rcases M with ⟨rfl, _, e⟩ | ⟨_, rfl, rfl⟩
  · have h7 := X.found e (.inr (.inl rfl))
    have hk := (List.getElem?_eq_some_iff.mp e).1
    obtain ⟨_, _, hv, hw, hb, hl, hm⟩ := (X.trm k (by lia) (by lia)).isPlus (args := args) (by simpa using e)
    have ec : c = σ.val k := funext fun i => by rw [hc, hv]
    exact ⟨σ.store k args, rfl, by rw [ec], rfl, X.old (by lia) hw hb, h7⟩
  · refine ⟨_, rfl, rfl, rfl, X.new _ c (args.foldr (fun a m => max (σ.lv a) m) 0) (args.map σ.ms).sum args ?_, X.len⟩
    have e9 : ∀ {α : Type} (f : Int → α) (v : α), ∀ a ∈ args, upd f (σ.ts.length : Int) v a = f a := fun f v a q => upd_ne (by have := hlt a q; lia)
    refine .plus args ha hlt (by simp) (fun i => ?_) ?_ upd_same ?_ ?_
    · show upd σ.val _ _ _ i = _
      rw [upd_same, hc]
      exact congrArg _ (map_congr' fun a q => (congrFun (e9 σ.val c a q) i).symm)
    · show upd _ _ _ _ = some (upd _ _ _ _)
      rw [upd_same, upd_same]
    · exact Eq.trans upd_same (foldr_congr' fun a q => (e9 _ _ a q).symm)
    · exact Eq.trans upd_same (congrArg _ (map_congr' fun a q => (e9 _ _ a q).symm))
theorem Sem.times {base : Int} {pt : Nat → Int → Int} {σ : Sg} (X : Sem base pt σ) {x : Int × Int} (hx : x ∈ nums) {a : Nat} {b : Int} (h7a : 7 ≤ a) (hn : σ.ts[a]? = some (numT base x)) (hb3 : 3 ≤ b) (hbl : b < σ.ts.length) (hlv : σ.lv b ≤ 47) {ts' : List Tm} {k : Nat} (M : Mk σ.ts ⟨Str.ofString "*", [(a : Int), b], base, .i 0⟩ ts' k) {c : Nat → Int} (hc : ∀ i, c i = (σ.val b i * x.1).fdiv x.2) :
    ∃ σ', σ'.ts = ts' ∧ σ'.wt = upd σ.wt k (some c) ∧ σ'.bl = upd σ.bl k (some [b]) ∧ Grow base pt σ σ' ∧ 7 ≤ k := by
  have hp := (nums_pos x hx).1
  have hal := (List.getElem?_eq_some_iff.mp hn).1
  rcases M with ⟨rfl, _, e⟩ | ⟨_, rfl, rfl⟩
  · have h7 := X.found e (.inr (.inr ⟨rfl, by simp; lia⟩))
    have hk := (List.getElem?_eq_some_iff.mp e).1
    obtain ⟨hv, hw, hb, hl, hm⟩ := (X.trm k (by lia) (by lia)).isTimes (a := a) (b := b) (x := x) (by simpa using hn) (by simpa using e)
    have ec : c = σ.val k := funext fun i => by rw [hc, ← hv, Int.mul_fdiv_cancel _ (by lia)]
    exact ⟨σ.store k [b], rfl, by rw [ec], rfl, X.old (by lia) hw hb, h7⟩
  · refine ⟨_, rfl, rfl, rfl, X.new _ c (σ.lv b + 1) (5 * σ.ms b) [b] ?_, X.len⟩
    have e9 : ∀ {α : Type} (f : Int → α) (v : α), upd f (σ.ts.length : Int) v b = f b := fun f v => upd_ne (by lia)
    refine .times x hx a b (by lia) (by simp; rw [List.getElem?_append_left hal]; exact hn) (by simp) (fun i => ?_) ?_ upd_same ?_ ?_
    · show upd σ.val _ _ _ i * _ = upd σ.val _ _ _ i * _
      rw [upd_same, e9, hc]
      refine (part_exact (n := 47 - σ.lv b) hx ?_).1
      have := X.dvd (b.toNat + 1) b (by lia) hb3 hbl i
      rwa [show 47 - σ.lv b + 1 = 48 - σ.lv b by lia]
    · show upd _ _ _ _ = some (upd _ _ _ _)
      rw [upd_same, upd_same]
    · exact Eq.trans upd_same (by show _ = upd _ _ _ _ + 1; rw [e9])
    · exact Eq.trans upd_same (by show _ = 5 * upd _ _ _ _; rw [e9])
end Mine

open PySem PySem.W PySem.Calls PyProof.Rows
set_option Elab.async false
set_option linter.all false
set_option maxRecDepth 100000
set_option maxHeartbeats 40000000
namespace Mine
open LCg
noncomputable abbrev rgO (a b c : Int) (t u v : Tok) : Obj := { cls := .type "range", data := .fields #[.int a t, .int b u, .int c v] }
theorem Own.push {c : Cx} {l : Led} {m : Mp} {h : Heap} (O : Own c l m h) (o : Obj) (hf : autoParam (o.isFreed = false) Mine.aT1._auto_1) : Own c ((h.objs.size, o) :: l) m (h.push o) ∧ AllLt h.objs.size l := by
  have lt : ∀ p ∈ l, p.1 < h.objs.size := fun p hp => Heap.lt_size (O.N p hp).1
  exact ⟨⟨O.F.push o, O.N.push O.F o hf, O.nd.cons lt⟩, allLt_of lt⟩
section
variable {w : World} {c : Cx} {l : Led} {m : Mp} {P : Value → Led → Mp → Prop}
theorem J.range {n : Int} {t : Tok} (k : ∀ d t1 t2, P (.ref d) ((d, rgO 0 n 1 t1 t t2) :: l) m) : J w c l m (PySem.call (.type "range") [.int n t]) P := fun h tk O =>
  call_range_1 ⟨_, tk + 2, _, _, rfl, (O.push _).1, k _ _ _⟩
theorem J.listOf {A : Addr} {vs : Array Value} (hD : c.g.IsList A vs) (hz : vs.size ≤ 16384) (k : ∀ d n, P (.ref d) ((d, lsO vs n) :: l) m) : J w c l m (PySem.call (.type "list") [.ref A]) P := fun h tk O =>
  list_copyK O.F O.N (hD.at fun o e => O.F.keep A o e) (fun D n h' F' N' lt => ⟨_, _, _, _, rfl, ⟨F', N', O.nd.cons lt⟩, k D n⟩) (by rw [sizeLine_eq]; lia)
theorem intsF_ints {f : Nat → Int} : ∀ {n : Nat} {ys : List Value}, IntsF f n ys → IntsAre ys ((List.range n).map f)
  | n, ys, h => by
    have go : ∀ (ys : List Value) (ks : List Nat), ys.length = ks.length → (∀ (i k : Nat), ks[i]? = some k → ∃ t, ys[i]? = some (.int (f k) t)) → IntsAre ys (ks.map f) := by
      intro ys
      induction ys with
      | nil => intro ks e _; cases ks with
        | nil => exact .nil
        | cons => cases e
      | cons y ys ih => intro ks e h; cases ks with
        | nil => cases e
        | cons k ks =>
          obtain ⟨t, q⟩ := h 0 k rfl
          cases q
          exact .cons _ _ (ih ks (by simpa using e) fun i k hk => by simpa using h (i + 1) k (by simpa using hk))
    refine go ys _ (by rw [h.1, List.length_range]) fun i k hk => ?_
    obtain ⟨hi, e⟩ := List.getElem?_eq_some_iff.mp hk
    rw [List.getElem_range] at e
    subst e
    exact h.2 i (by simpa using hi)
theorem J.sumI {f : Nat → Int} {n N : Nat} {ys : List Value} {D : Addr} {cc : Nat} (R : Rm c N) (i : Nat) (h1 : nth l i = some (D, lsO ys.toArray cc)) (hy : IntsF f n ys) (k : ∀ t, P (.int ((List.range n).map f).sum t) l m) : J w c l m (PySem.call (.builtin "sum") [.ref D]) P := fun h tk O => by
  obtain ⟨_, _, _, _, e, _⟩ := R
  exact LSm.sum_ints O.F O.N (by rw [e]) (O.N.isList (nth_mem h1)) (intsF_ints hy) fun h' tk' t' F' N' => ⟨_, _, _, _, rfl, ⟨F', N', O.nd⟩, k t'⟩
end
theorem nd_off4 {I C K D : Addr} {oI oC oK oD : Obj} {l : Led} (nd : Nd l) (o : Off4 I C K D l) (ne : (@Ne Nat I C) ∧ (@Ne Nat I K) ∧ (@Ne Nat I D) ∧ (@Ne Nat C K) ∧ (@Ne Nat C D) ∧ (@Ne Nat K D)) : Nd ((I, oI) :: (C, oC) :: (K, oK) :: (D, oD) :: l) := by
  have om := o.mem
  exact List.pairwise_cons.mpr ⟨List.forall_mem_cons.mpr ⟨ne.1, List.forall_mem_cons.mpr ⟨ne.2.1, List.forall_mem_cons.mpr ⟨ne.2.2.1, fun q hq => (om q hq).1.symm⟩⟩⟩,
    List.pairwise_cons.mpr ⟨List.forall_mem_cons.mpr ⟨ne.2.2.2.1, List.forall_mem_cons.mpr ⟨ne.2.2.2.2.1, fun q hq => (om q hq).2.1.symm⟩⟩,
      List.pairwise_cons.mpr ⟨List.forall_mem_cons.mpr ⟨ne.2.2.2.2.2, fun q hq => (om q hq).2.2.1.symm⟩, List.pairwise_cons.mpr ⟨fun q hq => (om q hq).2.2.2.symm, nd⟩⟩⟩⟩
section
variable {w : World} {c : Cx} {l : Led} {m : Mp} {P : Value → Led → Mp → Prop} {env : Env} {elt iter : PySem.Expr} {x : Str} {px pos : Pos} {scope : Scope} {cl : List (Str × Addr)}
inductive KComp4 (w : World) (c : Cx) (m : Mp) (P : Value → Led → Mp → Prop) (env : Env) (elt : PySem.Expr) (x : Str) (scope : Scope) (cl : List (Str × Addr)) (f : Nat → Int) (n : Nat) (xv : Value) (l' : Led) (m' : Mp) : Prop
  | mk (em : m' = m) (r : Addr) (t u v : Tok) (e : xv = .ref r) (hr : (r, rgO 0 (n : Int) 1 t u v) ∈ l')
      (turn : ∀ i t I oI C oC K oK D ys, i < n → oK.data = .cell (some (.int (i : Int) t)) → J w c ((I, oI) :: (C, oC) :: (K, oK) :: (D, lst ys) :: l') m (eval elt (compEnvC scope ((x, K) :: cl) C env)) (KElt m (f i) ((I, oI) :: (C, oC) :: (K, oK) :: (D, lst ys) :: l')))
      (fin : ∀ ys D, IntsF f n ys → P (.ref D) ((D, lsO ys.toArray ys.length) :: l') m) : KComp4 w c m P env elt x scope cl f n xv l' m'
theorem J.comp4 {n N : Nat} (R : Rm c N) (f : Nat → Int) (hz : n ≤ 1000) (hsm : Builtin.Range.small 0 (n : Int) 1 = true) (hn : Builtin.Range.rangeSize 0 (n : Int) 1 = ((n : Nat) : Int)) (hclos : closureFor scope env = pure cl) (hcl : ∀ n, cellsFrom n scope.names cl = (x, n) :: cl) (hpush : ∀ h, pushCells h scope.names = h.push { cls := .type "cell", data := .cell none })
    (k : J w c l m (eval iter env) (KComp4 w c m P env elt x scope cl f n))
    (hkind : autoParam (scope.kind = .function) Mine.aT3._auto_1) (hnames : autoParam (∀ y ∈ scope.names, y.2 = .local → scope.names.lookup y.1 = some .local) Mine.aT5._auto_1) (hx : autoParam ((relabel scope env).names.lookup x = some .cell) Mine.aT3._auto_1)
    (hs : autoParam (∀ x, foldedSetIterable iter env x = pure x) Mine.aT9._auto_1) : J w c l m (eval (.ListComp elt [⟨.Name x px, iter, [], 0⟩] scope pos) env) P := fun h0 tk0 O0 => by
  obtain ⟨dp, un, fr, gd, eA, _⟩ := R
  refine ListComp_4 O0.F hclos hcl hpush hkind hnames hx (J.run k O0 ?_) hs
  rintro xv l' m' h tk O ⟨rfl, r, t, u, v, rfl, hr, turn, fin⟩
  refine CSrc4.range (by rw [eA]) O.F O.N (O.N.get hr) hsm hn (by rw [sizeLine_eq]; lia) fun g => CRest4.all (f := f) trivial ?_ ?_
  · intro i v I oI C oC K oK D ys h tk E' hi hv hK F N off ne
    obtain ⟨t, rfl⟩ := hv
    refine wpAny_mono (J.run (turn i t I oI C oC K oK D ys hi (by rw [hK, Int.zero_add])) ⟨F, N, nd_off4 O.nd off ne⟩ ?_) (fun _ _ h => h) fun _ _ e => False.elim e
    rintro y l2 m2 h2 tk2 O2 ⟨rfl, t, ey, pre, rfl⟩
    exact CEnd4.intro O2.F O2.N _ (fun p hp => List.mem_append_right _ hp) off ⟨⟨t, ey⟩, rfl⟩
  · intro ys hy
    exact fun D h' tk' F' N' o1 => ⟨_, _, _, _, rfl, ⟨F', N', nd_off1 O.nd o1⟩, fin ys D hy⟩
end
end Mine

open PySem PySem.W PySem.Calls PyProof.Rows
set_option Elab.async false
set_option linter.all false
set_option maxRecDepth 100000
set_option maxHeartbeats 40000000
namespace Mine
section
variable {w : World} {c : Cx} {l D X : Led} {m : Mp} {P : Value → Led → Mp → Prop} {N : Nat} {W : Wd} {ts : List Tm}
theorem J.plus {pA n0 : Nat} {v0 v1 : Value} {vs : List Value} {ns : List Int} {so : Int} (G : Gc w c) (R : Rm c N) (wok : W.Ok) (B : BkD w c W ts D) (kt : Kt D l X) (hp : c.g.get? pA = some (lsO (v0 :: v1 :: vs).toArray n0)) (hn : pA ∉ W.bank) (hl : (v0 :: v1 :: vs).length ≤ 1000) (hI : IntsAre (v0 :: v1 :: vs) ns) (hall : Terms ts so (v0 :: v1 :: vs)) (hso : so = 1 ∨ so = 2) (hz : ts.length ≤ 900)
    (k : ∀ (k : Nat) tk ts' R, Mk ts ⟨Str.ofString "+", ns, so, .i 0⟩ ts' k → BkD w c W ts' R → P (.int (k : Int) tk) (X ++ R) m) (hN : autoParam (10 ≤ N) Mine.aT2._auto_1) : J w c l m (PySem.call (.ref 478) [.ref W.bA, .ref pA]) P :=
  J.bank (Res := fun v ts' => ∃ (k : Nat) (tk : Tok), v = .int (k : Int) tk ∧ Mk ts ⟨Str.ofString "+", ns, so, .i 0⟩ ts' k) 10 G R hN B wok kt
    (fun g r h _ _ O b hi ret => plus_fn g O.F.keep r W wok b hi pA n0 v0 v1 vs ns so (O.F.keep _ _ hp) hn hl hI hall hso hz fun k tk _ _ _ M K C => ret _ _ _ _ K C ⟨k, tk, rfl, M⟩)
    fun v ts' R ⟨k', tk, e, M⟩ B' => by subst e; exact k k' tk ts' R M B'
theorem J.itemS {D : Addr} {vs : Array Value} {cf : Nat → Int} {i : Nat} {tk : Tok} {value slice : Expr} (hD : c.g.IsList D vs) (hs : Six vs cf) (hi : i < 6) (h : ∀ t, P (.int (cf i) t) l m)
    (hq : autoParam (subscripted slice false (.ref D) (.int (i : Int) tk) = operate [.ref D, .int (i : Int) tk] (getItem (.ref D) (.int (i : Int) tk))) Mine.aT4._auto_1) : J w c l m (subscriptTail value slice (.ref D) (.int (i : Int) tk)) P := by
  obtain ⟨t, ht⟩ := hs.2 i hi
  exact J.itemB hD (Int.natCast_nonneg i) (by lia) (by simpa using ht) (h t) hq
end
noncomputable def sumW (W : Int → Nat → Int) (js : List Int) (i : Nat) : Int := ((List.range js.length).map fun p => W (js.getD p 0) i).sum
theorem sumW_eq (W : Int → Nat → Int) (js : List Int) (i : Nat) : sumW W js i = (js.map fun j => W j i).sum := by
  unfold sumW
  congr 1
  refine List.ext_getElem? fun p => ?_
  rw [List.getElem?_map, List.getElem?_map]
  by_cases h : p < js.length
  · rw [List.getElem?_range h, List.getElem?_eq_getElem h]; simp [h]
  · rw [List.getElem?_eq_none (by simpa using h), List.getElem?_eq_none (by simpa using h)]; rfl
theorem IntsAre.at_ {vs : List Value} {ns : List Int} (h : IntsAre vs ns) {i : Nat} {v : Value} (e : vs[i]? = some v) : ∃ t, v = .int (ns.getD i 0) t ∧ ns.getD i 0 ∈ ns := by
  have hl : i < ns.length := by rw [← h.length]; exact (List.getElem?_eq_some_iff.mp e).1
  obtain ⟨t, q⟩ := h.get i ns[i] (List.getElem?_eq_getElem hl)
  rw [e] at q
  have g : ns.getD i 0 = ns[i] := by simp [hl]
  exact ⟨t, by rw [g]; exact Option.some.inj q, by rw [g]; exact List.getElem_mem hl⟩
theorem two_cells {a b : Option Value} (L : Addr) : (([(L + 1 + 1, a), (L + 1, b)] : List (Addr × Option Value)).map (·.1)).Nodup ∧ ∀ x ∈ ([(L + 1 + 1, a), (L + 1, b)] : List (Addr × Option Value)).map (·.1), L < x :=
  ⟨by simp, List.forall_mem_cons.mpr ⟨Nat.lt_succ_of_lt (Nat.lt_succ_self _), List.forall_mem_cons.mpr ⟨Nat.lt_succ_self _, List.forall_mem_nil _⟩⟩⟩
section
variable {w : World} {mean : ExcName → Option Value} {mg mb : Str → Option Value} {dp un : Nat} {fr : Option (List Env)} {gd : Option (List Code)} {s : Shared} {E : Value → Shared → Prop} {Q : Value → Shared → Prop} {hb : Heap}
theorem law_sum_fn (G : Gd w mean mg mb hb) (kp : ∀ b o, hb.get? b = some o → s.heap.get? b = some o) (R : Room dp un 16) (V : Vd) (vok : V.Ok) {ts : List Tm} {i z : Nat} {wt : Int → Option (Nat → Int)} {bl : Int → Option (List Int)} (Z : Wrl w V i z ts wt bl s.heap) (hhi : ∀ a ∈ V.all, hb.get? a = none) (pA n0 : Nat) (v0 v1 : Value) (vs : List Value) (js : List Int) (W : Int → Nat → Int)
    (hp : s.heap.get? pA = some (lsO (v0 :: v1 :: vs).toArray n0)) (hn : pA ∉ V.off) (hl : (v0 :: v1 :: vs).length ≤ 1000) (hI : IntsAre (v0 :: v1 :: vs) js) (hall : Terms ts V.base (v0 :: v1 :: vs)) (hW : ∀ j ∈ js, wt j = some (W j)) (hz : ts.length ≤ 890) (zz : z ≤ 890)
    (hret : ∀ (k : Nat) tk h' tk' ts', Mk ts ⟨Str.ofString "+", js, V.base, .i 0⟩ ts' k → Keep V.mut s.heap h' → Wrl w V i (z + 1) ts' (fun j => if j = (k : Int) then some (sumW W js) else wt j) (fun j => if j = (k : Int) then some js else bl j) h' → Q (.int (k : Int) tk) { s with heap := h', toks := tk' }) :
    wpAny (model PySem.Challenge.rw_sj0101_01.row.prog w) (AR dp un fr gd) (call (.ref 768) [.ref V.woA, .ref pA]) Q E s := by
  have X₀ := G.X
  revert X₀
  k_fill
  intro X₀
  clear X₀
  have xall := Z.ex
  refine Wrl.open vok Z hhi fun o1 o2 o3 k2 k3 R7 Z Fd BL ND nd nt => ?_
  refine call_JC (n := 15) _ [((Str.ofString "world"), .ref V.woA), ((Str.ofString "parts"), .ref pA)] (fun L => [(L + 1 + 1, some (.ref pA)), (L + 1, some (.ref V.woA))]) [] R G kp ND nd ?_ (hvn := two_cells)
  intro c G R he en cells hc
  obtain ⟨oP, oC, hoP, hoC, rfl⟩ := hc.two
  have tk0 := en.tup ND nt
  have Bk := BL.bk c tk0
  have gp := en.gs _ _ (V.led_off BL hn) hp
  have gl := lists_at gp
  have nb : pA ∉ V.W.bank := fun q => hn (.tail _ (Vd.bank_all _ q))
  have d1 := Z.d1
  have d2 := Z.d2
  have d3 := Z.d3
  have hl2 := Z.l2
  have hl3 := Z.l3
  have hjl : (v0 :: v1 :: vs).toArray.size = js.length := by simpa using hI.length
  have wtAt : ∀ p v, (v0 :: v1 :: vs).toArray[p]? = some v → ∀ {Pr : Prop}, (∀ t a xs, v = .int (js.getD p 0) t → valueAt k2 (js.getD p 0) = some (.ref a) → c.g.IsList a xs → Six xs (W (js.getD p 0)) → Pr) → Pr := by
    intro p v e Pr k
    obtain ⟨t, q, hm⟩ := IntsAre.at_ hI (by simpa using e)
    have W1 := Z.wtAt (js.getD p 0)
    rw [hW _ hm] at W1
    obtain ⟨a, xs, n, e1, e2, e3, e4⟩ := W1
    exact k t a xs q e1 (lists_at (en.gs _ _ (V.led_off BL e2) e3)) e4
  dsimp only [List.cons_append, List.nil_append, Vd.led]
  k_with "sum_MLawSum" => ((with_reducible refine (?_ : J _ _ _ _ (getMethod (Value.ref V.W.bA) _ _) _)); refine J.methB (by assumption) Bk (by k_extra "sub") (by k_get) (by k_is) (by k_is) (by k_is) ?_)
  k_with "sum_MLawSum" => ((with_reducible refine (?_ : J _ _ _ _ (PySem.call (.ref 478) _) _)); refine J.plus G R vok.wok Bk (.keep (NotTup.cell hoP) (.keep (NotTup.cell hoC) (.keep NotTup.ls (.keep (NotTup.dict d1) (.keep (NotTup.dict d2) (.keep (NotTup.dict d3) .nil)))))) gp nb hl hI hall vok.base (by lia) ?_; intro k9 tk9 ts9 R9 M9 B9; dsimp only [List.cons_append, List.nil_append])
  k_with "sum_MLawSum" => ((with_reducible refine (?_ : J _ _ _ _ (callWith _ (.type _) _ _ _) _)); refine J.ty ?_)
  k_with "sum_MLawSum" => ((with_reducible refine (?_ : J _ _ _ _ (PySem.call (.type "range") _) _)); refine J.range ?_; intro d_l t1_l t2_l)
  k_with "sum_MLawSum" => ((with_reducible refine (?_ : J _ _ _ _ (PySem.call (.type "list") _) _)); refine J.listOf gl (by simp at hl ⊢; lia) ?_; intro d_l n_l)
  k_with "sum_MLawSum" => ((with_reducible refine (?_ : J _ _ _ _ (eval (.ListComp (.Call _ _ _ _) _ _ _) _) _)); refine J.comp4 R (sumW W js) (n := 6) (by decide) (by decide) (by decide) (by with_unfolding_all rfl) (fun _ => rfl) (fun _ => rfl) ?_)
  k_with "sum_MLawSum" => ((with_reducible refine (?_ : J _ _ _ _ (PySem.call (.builtin "len") _) _)); refine J.len (k := 6) _ (by k_extra "nth") rfl (by decide) ?_; intro t_l)
  k_with "sum_MLawSum" => ((with_reducible refine (?_ : KComp4 _ _ _ _ _ _ _ _ _ _ _ _ _ _)); refine ⟨rfl, _, _, _, _, rfl, .head _, fun i9 t9 I9 oI9 C9 oC9 K9 oK9 D9 ys9 hi9 hK9 => ?_, fun ys9 D9 hy9 => ?_⟩)
  k_with "sum_MLawSum" => ((with_reducible refine (?_ : J _ _ _ _ (eval (.ListComp (.Subscript _ _ _) _ _ _) _) _)); refine J.compI R (fun p => W (js.getD p 0) i9) (n := js.length) (by rw [← hI.length]; exact hl) (by with_unfolding_all rfl) ?_)
  k_with "sum_MLawSum" => ((with_reducible refine (?_ : KCompI _ _ _ _ _ _ _ _ _ _ _ _ _ _ _)); refine ⟨rfl, rfl, _, _, rfl, .inl gl, hjl, fun p8 v8 I8 oI8 C8 oC8 D8 ys8 m8 hv8 hn8 hx8 => wtAt p8 v8 hv8 fun t8 a8 xs8 e8 e7 g8 s8 => ?_, fun ys8 D8 hy8 => ?_⟩)
  k_with "sum_MLawSum" => ((with_reducible refine (?_ : J _ _ _ _ (eval (.Name _ _) (compEnvC _ _ _ _)) _)); first | refine J.nameF _ (by rfl) (by k_extra "nth") (by assumption) ?_ | (subst_vars; refine J.nameN _ (by k_extra "nth") (by assumption) (by assumption) ?_))
  k_with "sum_MLawSum" => ((with_reducible refine (?_ : J _ _ _ _ (subscriptTail _ _ (Value.ref V.wtA) (Value.int _ _)) _)); refine J.kitemA (PySem.intKind PR _) _ (by k_extra "nth") d2 (intKind_is _ _ _ _) e7 ?_)
  k_with "sum_MLawSum" => ((with_reducible refine (?_ : J _ _ _ _ (subscriptTail _ _ (Value.ref a8) (Value.int _ _)) _)); refine J.itemS g8 s8 hi9 ?_; intro t_l)
  k_with "sum_MLawSum" => ((with_reducible refine (?_ : J _ _ _ _ (PySem.call (.builtin "sum") _) _)); refine J.sumI R _ (by k_extra "nth") (by assumption) ?_; intro t_l)
  k_with "sum_MLawSum" => ((with_reducible refine (?_ : KElt _ _ _ _ _ _)); first | exact ⟨rfl, _, rfl, [], rfl⟩ | exact ⟨rfl, _, rfl, [_], rfl⟩)
  repeat' (first | k_extra "sum_MLawSum" | k_extra "law" | k_extra "j")
  intro h9 tk9 O9 K9
  rename BkD w _ V.W _ _ => B9
  rename Obj.IsDictOf _ _ (stored k2 _ _) => E2
  rename Obj.IsDictOf _ _ (stored k3 _ _) => E3
  have fin := Wrl.fin (pre := [_, _, _, _, _]) vok Z Fd xall BL ND en O9 B9 K9 E2 E3 (.tail _ (.head _)) (Six.of (by assumption)) (.head _) (by simpa using hI)
  exact hret _ _ _ _ _ (by assumption) fin.1 fin.2
end
end Mine

open PySem PySem.W PySem.Calls PyProof.Rows
set_option Elab.async false
set_option linter.all false
set_option maxRecDepth 100000
set_option maxHeartbeats 40000000
namespace Mine
section
variable {w : World} {mean : ExcName → Option Value} {mg mb : Str → Option Value} {dp un : Nat} {fr : Option (List Env)} {gd : Option (List Code)} {s : Shared} {E : Value → Shared → Prop} {Q : Value → Shared → Prop} {hb : Heap}
theorem law_number_fn (G : Gd w mean mg mb hb) (kp : ∀ b o, hb.get? b = some o → s.heap.get? b = some o) (R : Room dp un 14) (V : Vd) (vok : V.Ok) {ts : List Tm} {i z : Nat} {wt : Int → Option (Nat → Int)} {bl : Int → Option (List Int)} (Z : Wrl w V i z ts wt bl s.heap) (hhi : ∀ a ∈ V.all, hb.get? a = none) (a : Nat) (x : Int × Int) (t1 t2 : Tok) (ha : s.heap.get? a = some (tupO [.int x.1 t1, .int x.2 t2])) (hp : -100 ≤ x.1 ∧ x.1 ≤ 100) (hq : 0 < x.2 ∧ x.2 ≤ 100) (hw : V.base = 1 → x.2 = 1) (hz : ts.length ≤ 890) (zz : z ≤ 890)
    (hret : ∀ (k : Nat) tk h' tk' ts', Mk ts ⟨Str.ofString "num", [], V.base, .r x.1 x.2⟩ ts' k → Keep V.mut s.heap h' → Wrl w V i (z + 1) ts' (fun j => if j = (k : Int) then some (fun _ => (6 ^ 48 * x.1).fdiv x.2) else wt j) (fun j => if j = (k : Int) then some [] else bl j) h' → Q (.int (k : Int) tk) { s with heap := h', toks := tk' }) :
    wpAny (model PySem.Challenge.rw_sj0101_01.row.prog w) (AR dp un fr gd) (call (.ref 763) [.ref V.woA, .ref a]) Q E s := by
  have X₀ := G.X
  revert X₀
  k_fill
  intro X₀
  clear X₀
  have xall := Z.ex
  refine Wrl.open vok Z hhi fun o1 o2 o3 k2 k3 R7 Z Fd BL ND nd nt => ?_
  refine call_JC (n := 13) _ [((Str.ofString "world"), .ref V.woA), ((Str.ofString "value"), .ref a)] (fun L => [(L + 1, some (.ref a))]) [((Str.ofString "world"), .ref V.woA)] R G kp ND nd ?_ (hvn := fun L => by simp)
  intro c G R he en cells hc
  obtain ⟨oC, hoC, rfl⟩ := hc.one
  have tk0 := en.tup ND nt
  have Bk := BL.bk c tk0
  have ha := tk0 _ _ _ _ ha rfl rfl
  have d1 := Z.d1
  have d2 := Z.d2
  have d3 := Z.d3
  have hl2 := Z.l2
  have hl3 := Z.l3
  have hx0 : x.2 ≠ 0 := (Int.ne_of_lt hq.1).symm
  have hlg : x.2.natAbs.log2 < 9000 := Nat.lt_of_le_of_lt (Nat.log2_le_self _) (by lia)
  have hm : IntMulOk (6 ^ 48) x.1 := mulOk (k := 200) (by decide +kernel) (Nat.lt_trans (show x.1.natAbs < 128 by lia) (by decide +kernel)) (by decide) (by decide)
  dsimp only [List.cons_append, List.nil_append, Vd.led]
  k_with "num_MLawNum" => ((with_reducible refine (?_ : J _ _ _ _ (PySem.call (.ref 464) _) _)); refine J.num G R vok.wok Bk (.keep (NotTup.cell hoC) (.keep NotTup.ls (.keep (NotTup.dict d1) (.keep (NotTup.dict d2) (.keep (NotTup.dict d3) .nil))))) ha hp hq vok.base hw (by lia) ?_; intro k9 tk9 ts9 R9 M9 B9; dsimp only [List.cons_append, List.nil_append])
  k_with "num_MLawNum" => ((with_reducible refine (?_ : J _ _ _ _ (getMethod (Value.ref V.W.bA) _ _) _)); refine J.methB (by assumption) Bk (by k_extra "sub") (by k_get) (by k_is) (by k_is) (by k_is) ?_)
  k_with "num_MLawNum" => ((with_reducible refine J.compI (by assumption) (fun _ => (6 ^ 48 * x.1).fdiv x.2) (n := 6) (by decide) (by with_unfolding_all rfl) ?_))
  k_with "num_MLawNum" => ((with_reducible refine (?_ : KCompI _ _ _ _ _ _ _ _ _ _ _ _ _ _ _)); refine ⟨rfl, rfl, _, _, rfl, .inr ⟨_, nth_mem (by k_extra "nth"), rfl, _, rfl⟩, rfl, fun i9 v9 I9 oI9 C9 oC9 D9 ys9 m9 hv9 hn9 hx9 => ?_, fun ys9 D9 hy9 => ?_⟩)
  k_with "num_MLawNum" => ((with_reducible refine (?_ : KElt _ _ _ _ _ _)); exact ⟨rfl, _, rfl, [], rfl⟩)
  repeat' (first | k_extra "num_MLawNum" | k_extra "law" | k_extra "j")
  intro h9 tk9 O9 K9
  rename BkD w _ V.W _ _ => B9
  rename Obj.IsDictOf _ _ (stored k2 _ _) => E2
  rename Obj.IsDictOf _ _ (stored k3 _ _) => E3
  have fin := Wrl.fin (pre := [_, _, _]) vok Z Fd xall BL ND en O9 B9 K9 E2 E3 (.tail _ (.head _)) (Six.of (by assumption)) (.head _) IntsAre.nil
  exact hret _ _ _ _ _ (by assumption) fin.1 fin.2
end
end Mine

open PySem PySem.W PySem.Calls PyProof.Rows
set_option Elab.async false
set_option linter.all false
set_option maxRecDepth 100000
set_option maxHeartbeats 40000000
namespace Mine
theorem Vd.Ok.feB {V : Vd} (k : V.Ok) : ∀ a ∈ V.W.bank, @LT.lt Nat _ V.feA a := fun a h => Nat.lt_of_lt_of_le (Nat.lt_trans k.a1 k.a2) (k.wok.leN a h).1
theorem Vd.Ok.feP {V : Vd} (k : V.Ok) : @LT.lt Nat _ V.feA V.ptA ∧ @LT.lt Nat _ V.feA V.woA ∧ @LT.lt Nat _ V.feA V.wtA ∧ @LT.lt Nat _ V.feA V.blA :=
  have l0 := Nat.lt_trans (k.feB _ Wd.mem.2.2.2.2.2.2) k.a3
  have l1 := Nat.lt_trans l0 k.a4
  have l2 := Nat.lt_trans l1 k.a5
  ⟨l0, l1, l2, Nat.lt_trans l2 k.a6⟩
theorem WrlAt.pick {w : World} {V : Vd} {i z : Nat} {ts : List Tm} {wt : Int → Option (Nat → Int)} {bl : Int → Option (List Int)} {h h' : Heap} (vok : V.Ok) (Z : Wrl w V i z ts wt bl h) (k : Keep [V.feA] h h') (Fd : Feed w V.feA V.ceA (i + 1) h') : Wrl w V (i + 1) z ts wt bl h' := by
  obtain ⟨o, Z⟩ := Z.toAt
  have kk : ∀ b o, b ≠ V.feA → h.get? b = some o → h'.get? b = some o := fun b o hb e => k b o (List.not_mem_cons_of_ne_of_not_mem hb List.not_mem_nil) e
  have ka : ∀ (i : Nat) (p : Addr × Obj), nth (o.led w V) i = some p → @LT.lt Nat _ V.feA p.1 → h'.get? p.1 = some p.2 := fun i p e lt => kk p.1 p.2 (Nat.ne_of_gt lt) (Z.at_ p (nth_mem e))
  have m7 := @Wd.mem V.W
  have fb := vok.feB
  have fp := vok.feP
  have tk : TupKeep h h' := by
    intro b ob xs n e hc hd
    refine kk b ob (fun q => ?_) e
    subst q
    rw [Z.at_ _ (nth_mem (i := 7) rfl)] at e; cases e
    obtain ⟨t, hf⟩ := Z.feed
    rw [IsDictOf.cls hf] at hc; exact absurd hc (by simp)
  have sk : SeqKeep V.all h h' := fun b ob xs n hb _ e => kk b ob (fun q => hb (by rw [q]; simp [Vd.all])) e
  have e1 := ka 0 _ rfl (fb _ m7.1)
  have e2 := ka 1 _ rfl (fb _ m7.2.1)
  exact ⟨⟨e2, e1, ⟨_, _, _, _, _, _, _, _, _, _, _, Z.core.tup tk (ka 2 _ rfl (fb _ m7.2.2.1)) (ka 3 _ rfl (fb _ m7.2.2.2.1)) (ka 4 _ rfl (fb _ m7.2.2.2.2.1)) (ka 5 _ rfl (fb _ m7.2.2.2.2.2.1)) (ka 6 _ rfl (fb _ m7.2.2.2.2.2.2))⟩⟩,
    Fd, ⟨_, _, _, _, _, ⟨ka 9 _ rfl fp.1, ka 10 _ rfl fp.2.1, ka 11 _ rfl fp.2.2.1, ka 12 _ rfl fp.2.2.2, Z.d1, Z.d2, Z.d3, Z.wtAt.keeps sk, Z.blAt.keeps sk, Z.l2, Z.l3, Z.ex.keeps sk⟩⟩⟩
noncomputable def WS (w : World) (V : Vd) (i z : Nat) (σ : Sg) (h : Heap) : Prop := Wrl w V i z σ.ts σ.wt σ.bl h
structure NW (σ : Sg) (k : Int) : Prop where
  lo : 3 ≤ k
  hi : k < σ.ts.length
  w : σ.wt k = some (σ.val k)
structure NN (σ : Sg) (k : Int) : Prop where
  nw : NW σ k
  op : ∀ t, σ.ts[k.toNat]? = some t → t.op ≠ Str.ofString "num"
theorem NW.mono {σ σ' : Sg} {k : Int} (L : σ.Le σ') (n : NW σ k) : NW σ' k :=
  ⟨n.lo, by have := n.hi; have := L.len; lia, by rw [L.val k n.hi]; exact L.wt _ _ n.w⟩
theorem NN.mono {σ σ' : Sg} {k : Int} (L : σ.Le σ') (n : NN σ k) : NN σ' k := by
  refine ⟨n.nw.mono L, fun t e => ?_⟩
  have h1 := n.nw.hi
  have h2 := n.nw.lo
  have e1 : σ.ts[k.toNat]? = some _ := List.getElem?_eq_getElem (show k.toNat < σ.ts.length by lia)
  have := L.ts _ _ e1
  rw [this] at e
  exact n.op t (by rw [e1]; exact e)
theorem Sem.term {base : Int} {pt : Nat → Int → Int} {σ : Sg} (X : Sem base pt σ) {k : Int} (h : 3 ≤ k) (h2 : k < σ.ts.length) : ∃ t, σ.ts[k.toNat]? = some t ∧ t.sort = base ∧ ArgsLt t k := by
  by_cases h7 : k < 7
  · have : k = 3 ∨ k = 4 ∨ k = 5 ∨ k = 6 := by lia
    rcases this with rfl | rfl | rfl | rfl
    · exact ⟨_, X.u3, rfl, by intro a ha; simp at ha⟩
    · exact ⟨_, X.u4, rfl, by intro a ha; simp at ha⟩
    · exact ⟨_, X.u5, rfl, by intro a ha; simp at ha; lia⟩
    · exact ⟨_, X.u6, rfl, by intro a ha; simp at ha; lia⟩
  · cases X.trm k (by lia) h2 with
    | num x hx ht => exact ⟨_, ht, rfl, by intro a ha; simp at ha⟩
    | plus args ha hlt ht => exact ⟨_, ht, rfl, fun a q => (hlt a q).2⟩
    | times x hx a b hab hn ht => exact ⟨_, ht, rfl, by intro e q; simp at q; lia⟩
theorem Sem.nnUnk {base : Int} {pt : Nat → Int → Int} {σ : Sg} (X : Sem base pt σ) {k : Int} (h : 3 ≤ k) (h2 : k < 7) : NN σ k := by
  have hl := X.len
  refine ⟨⟨h, by lia, (X.unk k h h2).1⟩, fun t e => ?_⟩
  have : k = 3 ∨ k = 4 ∨ k = 5 ∨ k = 6 := by lia
  rcases this with rfl | rfl | rfl | rfl
  · rw [show (3 : Int).toNat = 3 from rfl, X.u3] at e; cases e; show Str.ofString _ ≠ _; decide
  · rw [show (4 : Int).toNat = 4 from rfl, X.u4] at e; cases e; show Str.ofString _ ≠ _; decide
  · rw [show (5 : Int).toNat = 5 from rfl, X.u5] at e; cases e; show Str.ofString _ ≠ _; decide
  · rw [show (6 : Int).toNat = 6 from rfl, X.u6] at e; cases e; show Str.ofString _ ≠ _; decide
theorem Grow.plusAt {base : Int} {pt : Nat → Int → Int} {σ σ' : Sg} (G : Grow base pt σ σ') {k : Nat} {args : List Int} (h7 : 7 ≤ k) (e : σ'.ts[k]? = some ⟨Str.ofString "+", args, base, .i 0⟩) (hlt : ∀ a ∈ args, a < σ.ts.length) :
    NN σ' k ∧ σ'.lv k = args.foldr (fun a m => max (σ.lv a) m) 0 ∧ σ'.ms k = (args.map σ.ms).sum := by
  have hk := (List.getElem?_eq_some_iff.mp e).1
  obtain ⟨_, _, _, hw, _, hl, hm⟩ := (G.sem.trm k (by lia) (by lia)).isPlus (args := args) (by simpa using e)
  refine ⟨⟨⟨by lia, by lia, hw⟩, fun t q => ?_⟩, ?_, ?_⟩
  · rw [show (k : Int).toNat = k by lia, e] at q; cases q
    show Str.ofString _ ≠ _; decide
  · rw [hl]; exact foldr_congr' fun a q => G.le.lv a (hlt a q)
  · rw [hm]; exact congrArg _ (map_congr' fun a q => G.le.ms a (hlt a q))
theorem Wrl.more {w : World} {V : Vd} {i z z' : Nat} {ts : List Tm} {wt : Int → Option (Nat → Int)} {bl : Int → Option (List Int)} {h : Heap} (Z : Wrl w V i z ts wt bl h) (le : z ≤ z') : Wrl w V i z' ts wt bl h := by
  obtain ⟨B, Fd, o1, o2, o3, k2, k3, Z⟩ := Z
  exact ⟨B, Fd, o1, o2, o3, k2, k3, ⟨Z.pts, Z.wo, Z.wtg, Z.blg, Z.d1, Z.d2, Z.d3, Z.wtAt, Z.blAt, Nat.le_trans Z.l2 le, Nat.le_trans Z.l3 le, Z.ex⟩⟩
theorem mulAt_of {base : Int} {pt : Nat → Int → Int} {σ : Sg} (X : Sem base pt σ) {k : Int} (n : NW σ k) (hm : σ.ms k ≤ 7 ^ 40) {p : Int} (hp : -100 ≤ p ∧ p ≤ 100) : MulAt (σ.val k) p := by
  intro i _
  have h := X.abs (k.toNat + 1) k (by lia) n.lo n.hi i
  refine mulOk (k := 400) ?_ ?_ (by decide) (by decide)
  · refine Nat.lt_of_le_of_lt (Nat.le_trans h (Nat.mul_le_mul_left _ hm)) (by decide +kernel)
  · refine Nat.lt_of_le_of_lt (show p.natAbs ≤ 100 by lia) (by decide +kernel)
section
variable {w : World} {mean : ExcName → Option Value} {mg mb : Str → Option Value} {dp un : Nat} {fr : Option (List Env)} {gd : Option (List Code)} {s : Shared} {E : Value → Shared → Prop} {Q : Value → Shared → Prop} {hb : Heap}
variable {i z : Nat} {σ : Sg} {pt : Nat → Int → Int}
theorem pick_sem (G : Gd w mean mg mb hb) (kp : ∀ b o, hb.get? b = some o → s.heap.get? b = some o) (R : Room dp un 3) (V : Vd) (vok : V.Ok) (Z : WS w V i z σ s.heap) (hhi : ∀ a ∈ V.all, hb.get? a = none) (hi : i ≤ 900) (wide : Int) (tkw : Tok) (hw : 0 < wide ∧ wide ≤ 3000)
    (hret : ∀ c tk h' tk', 0 ≤ c → c < wide → Keep V.mut s.heap h' → WS w V (i + 1) z σ h' → Q (.int c tk) { s with heap := h', toks := tk' }) :
    wpAny (model PySem.Challenge.rw_sj0101_01.row.prog w) (AR dp un fr gd) (call (.ref 758) [.ref V.feA, .int wide tkw]) Q E s :=
  pick_fn G kp R V.feA V.ceA i (Wrl.feed Z) vok.a1 (hhi _ (by simp [Vd.all])) (hhi _ (by simp [Vd.all])) hi wide tkw hw fun c tk h' tk' h0 h1 K Fd =>
    hret c tk h' tk' h0 h1 (K.mono (by simp [Vd.mut])) (WrlAt.pick vok Z K Fd)
theorem sum_sem (G : Gd w mean mg mb hb) (kp : ∀ b o, hb.get? b = some o → s.heap.get? b = some o) (R : Room dp un 16) (V : Vd) (vok : V.Ok) (Z : WS w V i z σ s.heap) (hhi : ∀ a ∈ V.all, hb.get? a = none) (X : Sem V.base pt σ) (pA n0 : Nat) (v0 v1 : Value) (vs : List Value) (js : List Int)
    (hp : s.heap.get? pA = some (lsO (v0 :: v1 :: vs).toArray n0)) (hn : pA ∉ V.off) (hI : IntsAre (v0 :: v1 :: vs) js) (hN : ∀ j ∈ js, NW σ j) (hl : js.length = 2 ∨ js.length = 3) (hz : σ.ts.length ≤ 890) (zz : z ≤ 890)
    (hret : ∀ (k : Int) tk h' tk' σ', Grow V.base pt σ σ' → σ'.ts.length ≤ σ.ts.length + 1 → NN σ' k → σ'.lv k = js.foldr (fun a m => max (σ.lv a) m) 0 → σ'.ms k = (js.map σ.ms).sum → Keep V.mut s.heap h' → WS w V i (z + 1) σ' h' → Q (.int k tk) { s with heap := h', toks := tk' }) :
    wpAny (model PySem.Challenge.rw_sj0101_01.row.prog w) (AR dp un fr gd) (call (.ref 768) [.ref V.woA, .ref pA]) Q E s := by
  have hall : Terms σ.ts V.base (v0 :: v1 :: vs) := fun v hv => by
    obtain ⟨p, e⟩ := List.getElem?_of_mem hv
    obtain ⟨t, e1, hm⟩ := IntsAre.at_ hI e
    have n := hN _ hm
    obtain ⟨tm, e2, e3, _⟩ := X.term n.lo n.hi
    have := n.lo
    have := n.hi
    exact ⟨_, t, tm, e1, by lia, by lia, e2, e3⟩
  refine law_sum_fn G kp R V vok Z hhi pA n0 v0 v1 vs js σ.val hp hn (by rw [hI.length]; lia) hI hall (fun j hj => (hN j hj).w) hz zz fun k tk h' tk' ts' M K Z' => ?_
  have hlt : ∀ a ∈ js, 3 ≤ a ∧ a < σ.ts.length := fun a q => ⟨(hN a q).lo, (hN a q).hi⟩
  obtain ⟨σ', r1, r2, r3, Gr, h7⟩ := X.plus (args := js) hl hlt M (c := sumW σ.val js) (fun i => sumW_eq _ _ _)
  subst r1
  obtain ⟨n, a, b⟩ := Gr.plusAt h7 M.at_ fun a q => (hlt a q).2
  refine hret k tk h' tk' σ' Gr M.len.2 n a b K ?_
  unfold WS
  rw [r2, r3]
  exact Z'
theorem nums_ok {x : Int × Int} (hx : x ∈ nums) : (-100 ≤ x.1 ∧ x.1 ≤ 100) ∧ (0 < x.2 ∧ x.2 ≤ 100) := by
  have := nums_pos x hx; lia
theorem number_sem (G : Gd w mean mg mb hb) (kp : ∀ b o, hb.get? b = some o → s.heap.get? b = some o) (R : Room dp un 14) (V : Vd) (vok : V.Ok) (Z : WS w V i z σ s.heap) (hhi : ∀ a ∈ V.all, hb.get? a = none) (X : Sem V.base pt σ) (a : Nat) (x : Int × Int) (t1 t2 : Tok) (hx : x ∈ nums) (hw : V.base = 1 → x.2 = 1)
    (ha : s.heap.get? a = some (tupO [.int x.1 t1, .int x.2 t2])) (hz : σ.ts.length ≤ 890) (zz : z ≤ 890)
    (hret : ∀ (k : Int) tk h' tk' σ', Grow V.base pt σ σ' → σ'.ts.length ≤ σ.ts.length + 1 → NW σ' k → σ'.lv k = 1 → σ'.ms k = 5 → Keep V.mut s.heap h' → WS w V i (z + 1) σ' h' → Q (.int k tk) { s with heap := h', toks := tk' }) :
    wpAny (model PySem.Challenge.rw_sj0101_01.row.prog w) (AR dp un fr gd) (call (.ref 763) [.ref V.woA, .ref a]) Q E s := by
  refine law_number_fn G kp R V vok Z hhi a x t1 t2 ha (nums_ok hx).1 (nums_ok hx).2 hw hz zz fun k tk h' tk' ts' M K Z' => ?_
  obtain ⟨σ1, r1, r2, r3, G1, h7⟩ := X.num0 hx M
  subst r1
  have e := M.at_
  have hk := M.len.1
  obtain ⟨ec, G2⟩ := G1.sem.num1 hx h7 e (c := fun _ => (6 ^ 48 * x.1).fdiv x.2) (fun _ => rfl)
  obtain ⟨_, _, _, hl, hm⟩ := (G1.sem.trm k (by lia) (by lia)).isNum (x := x) (by simpa using e)
  refine hret k tk h' tk' (σ1.store k []) ⟨G2.sem, G1.le.trans G2.le⟩ M.len.2 ⟨by lia, by show (k : Int) < σ1.ts.length; lia, upd_same⟩ hl hm K ?_
  unfold WS Sg.store
  rw [← ec, r2, r3]
  exact Z'
theorem times_sem (G : Gd w mean mg mb hb) (kp : ∀ b o, hb.get? b = some o → s.heap.get? b = some o) (R : Room dp un 18) (V : Vd) (vok : V.Ok) (Z : WS w V i z σ s.heap) (hhi : ∀ a ∈ V.all, hb.get? a = none) (X : Sem V.base pt σ) (a : Nat) (x : Int × Int) (t1 t2 : Tok) (hx : x ∈ nums) (hw : V.base = 1 → x.2 = 1)
    (ha : s.heap.get? a = some (tupO [.int x.1 t1, .int x.2 t2])) (j : Int) (jt : Tok) (N : NN σ j) (hl : σ.lv j ≤ 40) (hm : σ.ms j ≤ 7 ^ 40) (hz : σ.ts.length ≤ 880) (zz : z ≤ 890)
    (hret : ∀ (k : Int) tk h' tk' σ', Grow V.base pt σ σ' → σ'.ts.length ≤ σ.ts.length + 2 → NW σ' k → σ'.lv k ≤ σ.lv j + 1 → σ'.ms k ≤ 5 * σ.ms j → Keep V.mut s.heap h' → WS w V i (z + 1) σ' h' → Q (.int k tk) { s with heap := h', toks := tk' }) :
    wpAny (model PySem.Challenge.rw_sj0101_01.row.prog w) (AR dp un fr gd) (call (.ref 773) [.ref V.woA, .ref a, .int j jt]) Q E s := by
  have n := N.nw
  obtain ⟨t, ht, so, al⟩ := X.term n.lo n.hi
  have lo := n.lo; have hi := n.hi
  refine law_times_fn G kp R V vok Z hhi a x t1 t2 ha (nums_ok hx).1 (nums_ok hx).2 hw j jt t (σ.val j) (by lia) (by lia) ht (N.op t ht) al so n.w (mulAt_of X n hm (nums_ok hx).1) hz zz (fun e h' tk' K Z' => ?_) fun e k1 k2 tk h' tk' ts' ts'' M1 M2 K Z' => ?_
  · exact hret j jt h' tk' σ ⟨X, .refl σ⟩ (by lia) n (by lia) (by lia) K (Wrl.more Z' (by lia))
  · obtain ⟨σ1, r1, r2, r3, G1, h7⟩ := X.num0 hx M1
    subst r1
    obtain ⟨σ2, q1, q2, q3, G2, h72⟩ := G1.sem.times hx h7 M1.at_ lo (by have := G1.le.len; lia) (by rw [G1.le.lv j hi]; lia) M2 (c := fun i => (σ.val j i * x.1).fdiv x.2) (fun i => by rw [G1.le.val j hi])
    subst q1
    have hk := M2.len.1
    have e1 := M1.at_
    have e2 := M2.at_
    have e1' := G2.le.ts _ _ e1
    obtain ⟨_, w2, _, l2, m2⟩ := (G2.sem.trm k2 (by lia) (by lia)).isTimes (a := k1) (b := j) (x := x) (by simpa using e1') (by simpa using e2)
    have L := G1.le.trans G2.le
    rw [L.lv j hi] at l2
    rw [L.ms j hi] at m2
    refine hret k2 tk h' tk' σ2 ⟨G2.sem, L⟩ ?_ ⟨by lia, by lia, w2⟩ (by lia) (by lia) K ?_
    · have := M1.len.2; have := M2.len.2; lia
    · unfold WS
      rw [q2, q3, r2, r3]
      exact Z'
end
end Mine

open PySem PySem.W PySem.Calls PyProof.Rows
set_option Elab.async false
set_option linter.all false
set_option maxRecDepth 100000
set_option maxHeartbeats 40000000
namespace Mine
structure IsNorm (n : Int × Int) (t b : Int) : Prop where
  pos : 0 < n.2
  low : Int.gcd n.1 n.2 = 1
  eq : n.1 * b = t * n.2
theorem rnorm_is {t b : Int} (hb : 0 < b) : IsNorm (rnorm t b) t b := by
  have hg : 0 < (Int.gcd t b : Int) := by
    have : Int.gcd t b ≠ 0 := fun e => by rw [Int.gcd_eq_zero_iff] at e; lia
    lia
  obtain ⟨t', ht⟩ : (Int.gcd t b : Int) ∣ t := Int.gcd_dvd_left ..
  obtain ⟨b', hb'⟩ : (Int.gcd t b : Int) ∣ b := Int.gcd_dvd_right ..
  have e : rnorm t b = (t', b') := by
    unfold rnorm
    rw [if_neg (by lia)]
    have e1 : t.fdiv (Int.gcd t b) = t' := by
      rw [show t.fdiv (Int.gcd t b) = ((Int.gcd t b : Int) * t').fdiv (Int.gcd t b) from congrArg (fun z => Int.fdiv z _) ht, Int.mul_fdiv_cancel_left _ (by lia)]
    have e2 : b.fdiv (Int.gcd t b) = b' := by
      rw [show b.fdiv (Int.gcd t b) = ((Int.gcd t b : Int) * b').fdiv (Int.gcd t b) from congrArg (fun z => Int.fdiv z _) hb', Int.mul_fdiv_cancel_left _ (by lia)]
    rw [e1, e2]
  rw [e]
  generalize hG : (Int.gcd t b : Int) = G at *
  refine ⟨?_, ?_, ?_⟩
  · show 0 < b'
    exact Int.pos_of_mul_pos_right (a := G) (by rw [← hb']; exact hb) (by lia)
  · show Int.gcd t' b' = 1
    have h1 : Int.gcd (G * t') (G * b') = G.natAbs * Int.gcd t' b' := Int.gcd_mul_left ..
    rw [← ht, ← hb'] at h1
    have h2 : G.natAbs = Int.gcd t b := by lia
    rw [h2] at h1
    have h3 : 0 < Int.gcd t b := by lia
    have : Int.gcd t b * Int.gcd t' b' = Int.gcd t b * 1 := by lia
    exact Nat.eq_of_mul_eq_mul_left h3 this
  · show t' * b = t * b'
    rw [ht, hb']; ac_rfl
theorem radd_is {x y : Int × Int} (hx : 0 < x.2) (hy : 0 < y.2) : IsNorm (radd x y) (x.1 * y.2 + y.1 * x.2) (x.2 * y.2) := by
  unfold radd
  split
  · rename_i h
    refine ⟨by simp, by simp, by simp [h.1, h.2]⟩
  · exact rnorm_is (Int.mul_pos hx hy)
theorem rmul_is {x y : Int × Int} (hx : 0 < x.2) (hy : 0 < y.2) : IsNorm (rmul x y) (x.1 * y.1) (x.2 * y.2) := by
  unfold rmul
  split
  · rename_i h
    refine ⟨by simp, by simp, by simp [h.1, h.2]⟩
  · exact rnorm_is (Int.mul_pos hx hy)
theorem IsNorm.den {n : Int × Int} {t b D c : Int} (h : IsNorm n t b) (hb : 0 < b) (e : D * t = b * c) : n.2 ∣ D := by
  have h1 : n.2 ∣ D * n.1 := by
    refine ⟨c, Int.eq_of_mul_eq_mul_right (a := b) (by lia) ?_⟩
    calc D * n.1 * b = D * (n.1 * b) := by ac_rfl
      _ = D * t * n.2 := by rw [h.eq]; ac_rfl
      _ = n.2 * c * b := by rw [e]; ac_rfl
  have h2 : Nat.Coprime n.2.natAbs n.1.natAbs := by rw [Nat.coprime_comm]; exact h.low
  rw [← Int.natAbs_dvd_natAbs, Int.natAbs_mul] at h1
  rw [← Int.natAbs_dvd_natAbs]
  exact h2.dvd_of_dvd_mul_right h1
structure Low (x : Int × Int) : Prop where
  pos : 0 < x.2
  low : Int.gcd x.1 x.2 = 1
  dvd : x.2 ∣ S48
noncomputable def sc (x : Int × Int) : Int := x.1 * (S48 / x.2)
theorem Low.sc {x : Int × Int} (h : Low x) : sc x * x.2 = x.1 * S48 := by
  unfold Mine.sc
  rw [Int.mul_assoc, Int.ediv_mul_cancel h.dvd]
theorem low_zero : Low (0, 1) := ⟨by decide, by decide, Int.one_dvd _⟩
theorem low_one : Low (1, 1) := ⟨by decide, by decide, Int.one_dvd _⟩
theorem sc_zero : sc (0, 1) = 0 := by unfold sc; simp
theorem sc_one : sc (1, 1) = S48 := by unfold sc; simp
theorem Low.add {x y : Int × Int} (hx : Low x) (hy : Low y) {D : Int} (dx : x.2 ∣ D) (dy : y.2 ∣ D) (hD : D ∣ S48) : Low (radd x y) ∧ (radd x y).2 ∣ D ∧ Mine.sc (radd x y) = Mine.sc x + Mine.sc y := by
  have n := radd_is hx.pos hy.pos
  have px := hx.pos
  have py := hy.pos
  have hb := Int.mul_pos hx.pos hy.pos
  have d : (radd x y).2 ∣ D := by
    obtain ⟨a, ha⟩ := dx
    obtain ⟨b, hb'⟩ := dy
    refine n.den hb (c := a * x.1 + b * y.1) ?_
    rw [Int.mul_add, Int.mul_add]
    have e1 : D * (x.1 * y.2) = x.2 * y.2 * (a * x.1) := by rw [ha]; ac_rfl
    have e2 : D * (y.1 * x.2) = x.2 * y.2 * (b * y.1) := by rw [hb']; ac_rfl
    rw [e1, e2]
  have l : Low (radd x y) := ⟨n.pos, n.low, Int.dvd_trans d hD⟩
  refine ⟨l, d, ?_⟩
  have hp := Int.mul_pos hb n.pos
  refine Int.eq_of_mul_eq_mul_right (a := x.2 * y.2 * (radd x y).2) (by lia) ?_
  calc Mine.sc (radd x y) * (x.2 * y.2 * (radd x y).2) = (Mine.sc (radd x y) * (radd x y).2) * (x.2 * y.2) := by ac_rfl
    _ = S48 * ((radd x y).1 * (x.2 * y.2)) := by rw [l.sc]; ac_rfl
    _ = S48 * ((x.1 * y.2 + y.1 * x.2) * (radd x y).2) := by rw [n.eq]
    _ = (x.1 * S48) * y.2 * (radd x y).2 + (y.1 * S48) * x.2 * (radd x y).2 := by rw [Int.add_mul, Int.mul_add]; ac_rfl
    _ = (Mine.sc x * x.2) * y.2 * (radd x y).2 + (Mine.sc y * y.2) * x.2 * (radd x y).2 := by rw [hx.sc, hy.sc]
    _ = (Mine.sc x + Mine.sc y) * (x.2 * y.2 * (radd x y).2) := by rw [Int.add_mul]; ac_rfl
theorem Low.mul {x y : Int × Int} (hx : Low x) (hy : y ∈ nums) {D : Int} (dx : x.2 ∣ D) (hD : D * 6 ∣ S48) : Low (rmul x y) ∧ (rmul x y).2 ∣ D * 6 ∧ Mine.sc (rmul x y) * y.2 = Mine.sc x * y.1 := by
  have py := (nums_pos y hy).1
  have n := rmul_is hx.pos py
  have px := hx.pos
  have hb := Int.mul_pos hx.pos py
  have d : (rmul x y).2 ∣ D * 6 := by
    obtain ⟨a, ha⟩ := dx
    obtain ⟨r, hr⟩ := nums_six y hy
    refine n.den hb (c := a * r * x.1 * y.1) ?_
    rw [ha, hr]; ac_rfl
  have l : Low (rmul x y) := ⟨n.pos, n.low, Int.dvd_trans d hD⟩
  refine ⟨l, d, ?_⟩
  have hp := Int.mul_pos px n.pos
  refine Int.eq_of_mul_eq_mul_right (a := x.2 * (rmul x y).2) (by lia) ?_
  calc Mine.sc (rmul x y) * y.2 * (x.2 * (rmul x y).2) = (Mine.sc (rmul x y) * (rmul x y).2) * (x.2 * y.2) := by ac_rfl
    _ = S48 * ((rmul x y).1 * (x.2 * y.2)) := by rw [l.sc]; ac_rfl
    _ = S48 * (x.1 * y.1 * (rmul x y).2) := by rw [n.eq]
    _ = (x.1 * S48) * y.1 * (rmul x y).2 := by ac_rfl
    _ = (Mine.sc x * x.2) * y.1 * (rmul x y).2 := by rw [hx.sc]
    _ = Mine.sc x * y.1 * (x.2 * (rmul x y).2) := by ac_rfl
noncomputable def sumN : Nat → (Int → Int) → Int
  | 0, _ => 0
  | n + 1, F => sumN n F + F n
noncomputable def sumM : Nat → (Int → Nat) → Nat
  | 0, _ => 0
  | n + 1, F => sumM n F + F n
theorem sumN_congr {F G : Int → Int} : ∀ {n : Nat}, (∀ k : Int, 0 ≤ k → k < n → F k = G k) → sumN n F = sumN n G
  | 0, _ => rfl
  | n + 1, h => by rw [sumN, sumN, sumN_congr fun k h0 hk => h k h0 (by lia), h n (by lia) (by lia)]
theorem sumM_congr {F G : Int → Nat} : ∀ {n : Nat}, (∀ k : Int, 0 ≤ k → k < n → F k = G k) → sumM n F = sumM n G
  | 0, _ => rfl
  | n + 1, h => by rw [sumM, sumM, sumM_congr fun k h0 hk => h k h0 (by lia), h n (by lia) (by lia)]
theorem sumN_upd {F : Int → Int} {k v : Int} (h0 : 0 ≤ k) : ∀ {n : Nat}, k < n → sumN n (upd F k v) + F k = sumN n F + v
  | 0, h => absurd h (by lia)
  | n + 1, h => by
    rw [sumN, sumN]
    by_cases e : k = n
    · subst e
      rw [upd_same, sumN_congr (G := F) fun j _ hj => upd_ne (by lia)]; lia
    · have := sumN_upd (F := F) (v := v) h0 (n := n) (by lia)
      rw [upd_ne (f := F) (by lia : (n : Int) ≠ k)]; lia
theorem sumM_upd {F : Int → Nat} {k : Int} {v : Nat} (h0 : 0 ≤ k) : ∀ {n : Nat}, k < n → sumM n (upd F k v) + F k = sumM n F + v
  | 0, h => absurd h (by lia)
  | n + 1, h => by
    rw [sumM, sumM]
    by_cases e : k = n
    · subst e
      rw [upd_same, sumM_congr (G := F) fun j _ hj => upd_ne (by lia)]; lia
    · have := sumM_upd (F := F) (v := v) h0 (n := n) (by lia)
      rw [upd_ne (f := F) (by lia : (n : Int) ≠ k)]; lia
theorem sumM_le {F : Int → Nat} {k : Int} (h0 : 0 ≤ k) : ∀ {n : Nat}, k < n → F k ≤ sumM n F
  | 0, h => absurd h (by lia)
  | n + 1, h => by
    rw [sumM]
    by_cases e : k = n
    · subst e; lia
    · have := sumM_le (F := F) h0 (n := n) (by lia); lia
theorem sumN_zero {F : Int → Int} : ∀ {n : Nat}, (∀ k : Int, 0 ≤ k → k < n → F k = 0) → sumN n F = 0
  | 0, _ => rfl
  | n + 1, h => by rw [sumN, sumN_zero fun k h0 hk => h k h0 (by lia), h n (by lia) (by lia)]; rfl
theorem sumM_zero {F : Int → Nat} : ∀ {n : Nat}, (∀ k : Int, 0 ≤ k → k < n → F k = 0) → sumM n F = 0
  | 0, _ => rfl
  | n + 1, h => by rw [sumM, sumM_zero fun k h0 hk => h k h0 (by lia), h n (by lia) (by lia)]
end Mine

open PySem PySem.W PySem.Calls PyProof.Rows
set_option Elab.async false
set_option linter.all false
set_option maxRecDepth 100000
set_option maxHeartbeats 40000000
namespace Mine
inductive Rc (bl : Int → Option (List Int)) : Int → Int → Prop
  | refl (k : Int) : Rc bl k k
  | step {j a k : Int} {l : List Int} : bl j = some l → a ∈ l → Rc bl a k → Rc bl j k
theorem Rc.snoc {bl : Int → Option (List Int)} {t u a : Int} {l : List Int} (h : Rc bl t u) (e : bl u = some l) (ha : a ∈ l) : Rc bl t a := by
  induction h with
  | refl k => exact .step e ha (.refl a)
  | step e1 h1 _ ih => exact .step e1 h1 (ih e)
noncomputable abbrev RF := Int → Option (Int × Int)
noncomputable def scO (o : Option (Int × Int)) : Int := o.elim 0 sc
noncomputable abbrev FV (σ : Sg) (i : Nat) (f : RF) : Int → Int := fun k => scO (f k) * σ.val k i
noncomputable abbrev FM (σ : Sg) (f : RF) : Int → Nat := fun k => (scO (f k)).natAbs * σ.ms k
noncomputable abbrev PV (σ : Sg) (i : Nat) (pend : List (Int × (Int × Int))) : Int := (pend.map fun q => sc q.2 * σ.val q.1 i).sum
noncomputable abbrev PM (σ : Sg) (pend : List (Int × (Int × Int))) : Nat := (pend.map fun q => (sc q.2).natAbs * σ.ms q.1).sum
structure KeyOk (σ : Sg) (t n k : Int) (x : Int × Int) : Prop where
  lo : 3 ≤ k
  hi : k < n
  lv : σ.lv k ≤ σ.lv t
  low : Low x
  den : x.2 ∣ 6 ^ (σ.lv t - σ.lv k)
structure LinP (σ : Sg) (t n : Int) (f p : RF) (c : Int × Int) (pend : List (Int × (Int × Int))) : Prop where
  hn : n ≤ σ.ts.length
  hl : σ.lv t ≤ 40
  key : ∀ k x, f k = some x → KeyOk σ t n k x
  pkeys : ∀ q ∈ pend, KeyOk σ t n q.1 q.2
  pkey : ∀ k x, p k = some x → 3 ≤ k ∧ k < 7 ∧ n ≤ k ∧ Low x
  con : Low c ∧ c.2 ∣ 6 ^ σ.lv t
  val : ∀ i, sumN σ.ts.length (FV σ i f) + sumN σ.ts.length (FV σ i p) + sc c * S48 + PV σ i pend = S48 * σ.val t i
  mass : sumM σ.ts.length (FM σ f) + sumM σ.ts.length (FM σ p) + (sc c).natAbs + PM σ pend ≤ 6 ^ 48 * σ.ms t
  sub : ∀ k, ((∃ x, f k = some x) ∨ (∃ x, p k = some x) ∨ (∃ q ∈ pend, q.1 = k)) → Rc σ.bl t k
  sup : ∀ k, 3 ≤ k → k < 7 → Rc σ.bl t k → (∃ x, p k = some x) ∨ (∃ j x, f j = some x ∧ Rc σ.bl j k) ∨ (∃ q ∈ pend, Rc σ.bl q.1 k)
theorem FV_upd {σ : Sg} {i : Nat} {f : RF} {a : Int} {o : Option (Int × Int)} : FV σ i (upd f a o) = upd (FV σ i f) a (scO o * σ.val a i) := by
  funext k
  by_cases e : k = a
  · subst e; rw [upd_same]; show scO (upd f k o k) * _ = _; rw [upd_same]
  · rw [upd_ne e]; show scO (upd f a o k) * _ = _; rw [upd_ne e]
theorem FM_upd {σ : Sg} {f : RF} {a : Int} {o : Option (Int × Int)} : FM σ (upd f a o) = upd (FM σ f) a ((scO o).natAbs * σ.ms a) := by
  funext k
  by_cases e : k = a
  · subst e; rw [upd_same]; show (scO (upd f k o k)).natAbs * _ = _; rw [upd_same]
  · rw [upd_ne e]; show (scO (upd f a o k)).natAbs * _ = _; rw [upd_ne e]
theorem pow6_dvd {a b : Nat} (h : a ≤ b) : (6 : Int) ^ a ∣ 6 ^ b := pow_dvd6 h
theorem scO_getD {o : Option (Int × Int)} : scO o = sc (o.getD (0, 1)) := by
  cases o with
  | none => exact sc_zero.symm
  | some x => rfl
theorem LinP.head {σ : Sg} {t n : Int} {f p : RF} {c : Int × Int} {a : Int} {x : Int × Int} {pend : List (Int × (Int × Int))} (h : LinP σ t n f p c ((a, x) :: pend)) : KeyOk σ t n a x := h.pkeys (a, x) (.head _)
theorem LinP.low {σ : Sg} {t n : Int} {f p : RF} {c : Int × Int} {a : Int} {x : Int × Int} {pend : List (Int × (Int × Int))} (h : LinP σ t n f p c ((a, x) :: pend)) : Low ((f a).getD (0, 1)) ∧ ((f a).getD (0, 1)).2 ∣ 6 ^ (σ.lv t - σ.lv a) := by
  cases e : f a with
  | none => exact ⟨low_zero, Int.one_dvd _⟩
  | some y => exact ⟨(h.key a y e).low, (h.key a y e).den⟩
theorem LinP.push {σ : Sg} {t n : Int} {f p : RF} {c : Int × Int} {a : Int} {x : Int × Int} {pend : List (Int × (Int × Int))} (h : LinP σ t n f p c ((a, x) :: pend)) :
    LinP σ t n (upd f a (some (radd ((f a).getD (0, 1)) x))) p c pend := by
  have K := h.head
  obtain ⟨l1, l2⟩ := h.low
  have lt := h.hl
  obtain ⟨r1, r2, r3⟩ := l1.add K.low l2 K.den (pow6_dvd (by lia : σ.lv t - σ.lv a ≤ 48))
  have hk : a < σ.ts.length := by have := K.hi; have := h.hn; lia
  have h0 : 0 ≤ a := by have := K.lo; lia
  refine ⟨h.hn, h.hl, fun k y e => ?_, fun q hq => h.pkeys q (.tail _ hq), h.pkey, h.con, fun i => ?_, ?_, fun k hk => ?_, fun k h3 h7 hr => ?_⟩
  · by_cases q : k = a
    · subst q
      rw [upd_same] at e
      cases e
      exact ⟨K.lo, K.hi, K.lv, r1, r2⟩
    · rw [upd_ne q] at e
      exact h.key k y e
  · have h1 := h.val i
    have h2 := sumN_upd (F := FV σ i f) (k := a) (v := scO (some (radd ((f a).getD (0, 1)) x)) * σ.val a i) h0 hk
    rw [← FV_upd] at h2
    have h3 : scO (some (radd ((f a).getD (0, 1)) x)) * σ.val a i = FV σ i f a + sc x * σ.val a i := by
      show sc _ * _ = scO (f a) * _ + _
      rw [r3, Int.add_mul, scO_getD]
    rw [h3] at h2
    simp only [PV, List.map_cons, List.sum_cons] at h1 ⊢
    lia
  · have h1 := h.mass
    have h2 := sumM_upd (F := FM σ f) (k := a) (v := (scO (some (radd ((f a).getD (0, 1)) x))).natAbs * σ.ms a) h0 hk
    rw [← FM_upd] at h2
    have h3 : (scO (some (radd ((f a).getD (0, 1)) x))).natAbs * σ.ms a ≤ FM σ f a + (sc x).natAbs * σ.ms a := by
      show (sc _).natAbs * _ ≤ (scO (f a)).natAbs * _ + _
      rw [r3, ← Nat.add_mul, scO_getD]
      exact Nat.mul_le_mul_right _ (Int.natAbs_add_le _ _)
    simp only [PM, List.map_cons, List.sum_cons] at h1 ⊢
    lia
  · rcases hk with ⟨y, e⟩ | hk | ⟨q, hq, e⟩
    · by_cases q : k = a
      · exact h.sub k (.inr (.inr ⟨_, .head _, q.symm⟩))
      · rw [upd_ne q] at e
        exact h.sub k (.inl ⟨y, e⟩)
    · exact h.sub k (.inr (.inl hk))
    · exact h.sub k (.inr (.inr ⟨q, .tail _ hq, e⟩))
  · rcases h.sup k h3 h7 hr with q | ⟨j, y, e, r⟩ | ⟨q, hq, r⟩
    · exact .inl q
    · by_cases q : j = a
      · subst q
        exact .inr (.inl ⟨j, _, upd_same, r⟩)
      · exact .inr (.inl ⟨j, y, by rw [upd_ne q]; exact e, r⟩)
    · rcases List.mem_cons.mp hq with rfl | hq
      · exact .inr (.inl ⟨a, _, upd_same, r⟩)
      · exact .inr (.inr ⟨q, hq, r⟩)
structure Top1 (f : RF) (u : Int) (x : Int × Int) : Prop where
  at_ : f u = some x
  max : ∀ k y, f k = some y → k ≤ u
theorem LinP.pop {σ : Sg} {t n u : Int} {f p p' : RF} {c c' x : Int × Int} {pend : List (Int × (Int × Int))} (h : LinP σ t n f p c []) (hu : Top1 f u x)
    (hp : ∀ q ∈ pend, KeyOk σ t u q.1 q.2) (hpk : ∀ k y, p' k = some y → 3 ≤ k ∧ k < 7 ∧ u ≤ k ∧ Low y) (hc : Low c' ∧ c'.2 ∣ 6 ^ σ.lv t)
    (hv : ∀ i, sumN σ.ts.length (FV σ i p') + sc c' * S48 + PV σ i pend = sumN σ.ts.length (FV σ i p) + sc c * S48 + sc x * σ.val u i)
    (hm : sumM σ.ts.length (FM σ p') + (sc c').natAbs + PM σ pend ≤ sumM σ.ts.length (FM σ p) + (sc c).natAbs + (sc x).natAbs * σ.ms u)
    (hsub : ∀ k, ((∃ y, p' k = some y) ∨ (∃ q ∈ pend, q.1 = k)) → (∃ y, p k = some y) ∨ Rc σ.bl t k)
    (hsup : ∀ k, 3 ≤ k → k < 7 → ((∃ y, p k = some y) ∨ Rc σ.bl u k) → (∃ y, p' k = some y) ∨ (∃ q ∈ pend, Rc σ.bl q.1 k)) :
    LinP σ t u (upd f u none) p' c' pend := by
  have K := h.key u x hu.at_
  have hk : u < σ.ts.length := by have := K.hi; have := h.hn; lia
  have h0 : 0 ≤ u := by have := K.lo; lia
  refine ⟨by lia, h.hl, fun k y e => ?_, hp, hpk, hc, fun i => ?_, ?_, fun k hk => ?_, fun k h3 h7 hr => ?_⟩
  · by_cases q : k = u
    · subst q
      rw [upd_same] at e; cases e
    · rw [upd_ne q] at e
      have K2 := h.key k y e
      have := hu.max k y e
      exact ⟨K2.lo, by lia, K2.lv, K2.low, K2.den⟩
  · have h1 := h.val i
    have h2 := sumN_upd (F := FV σ i f) (k := u) (v := scO none * σ.val u i) h0 hk
    rw [← FV_upd] at h2
    have h3 : FV σ i f u = sc x * σ.val u i := by show scO (f u) * _ = _; rw [hu.at_]; rfl
    have h4 : scO none * σ.val u i = 0 := by show 0 * _ = 0; simp
    have h5 := hv i
    rw [h3, h4] at h2
    simp only [PV, List.map_nil, List.sum_nil] at h1
    simp only [PV] at h5 ⊢
    lia
  · have h1 := h.mass
    have h2 := sumM_upd (F := FM σ f) (k := u) (v := (scO none).natAbs * σ.ms u) h0 hk
    rw [← FM_upd] at h2
    have h3 : FM σ f u = (sc x).natAbs * σ.ms u := by show (scO (f u)).natAbs * _ = _; rw [hu.at_]; rfl
    have h4 : (scO none).natAbs * σ.ms u = 0 := by show (0 : Int).natAbs * _ = 0; simp
    rw [h3, h4] at h2
    simp only [PM, List.map_nil, List.sum_nil] at h1
    simp only [PM] at hm ⊢
    lia
  · rcases hk with ⟨y, e⟩ | hk | hk
    · by_cases q : k = u
      · subst q
        rw [upd_same] at e; cases e
      · rw [upd_ne q] at e
        exact h.sub k (.inl ⟨y, e⟩)
    · rcases hsub k (.inl hk) with q | q
      · exact h.sub k (.inr (.inl q))
      · exact q
    · rcases hsub k (.inr hk) with q | q
      · exact h.sub k (.inr (.inl q))
      · exact q
  · rcases h.sup k h3 h7 hr with q | ⟨j, y, e, r⟩ | ⟨q, hq, _⟩
    · exact (hsup k h3 h7 (.inl q)).imp id .inr
    · by_cases q : j = u
      · subst q
        exact (hsup k h3 h7 (.inr r)).imp id .inr
      · exact .inr (.inl ⟨j, y, by rw [upd_ne q]; exact e, r⟩)
    · exact nomatch hq
theorem PV_map {σ : Sg} {i : Nat} {x : Int × Int} : ∀ {l : List Int}, PV σ i (l.map fun a => (a, x)) = sc x * (l.map fun a => σ.val a i).sum
  | [] => by simp [PV]
  | a :: l => by
    have := PV_map (σ := σ) (i := i) (x := x) (l := l)
    simp only [PV, List.map_cons, List.sum_cons, Int.mul_add] at this ⊢
    lia
theorem PM_map {σ : Sg} {x : Int × Int} : ∀ {l : List Int}, PM σ (l.map fun a => (a, x)) = (sc x).natAbs * (l.map σ.ms).sum
  | [] => by simp [PM]
  | a :: l => by
    have := PM_map (σ := σ) (x := x) (l := l)
    simp only [PM, List.map_cons, List.sum_cons, Nat.mul_add] at this ⊢
    lia
theorem LinP.popPlus {base : Int} {pt : Nat → Int → Int} {σ : Sg} (X : Sem base pt σ) {t n u : Int} {f p : RF} {c x : Int × Int} (h : LinP σ t n f p c []) (hu : Top1 f u x) (h7 : 7 ≤ u) {args : List Int} (e : σ.ts[u.toNat]? = some ⟨Str.ofString "+", args, base, .i 0⟩) :
    LinP σ t u (upd f u none) p c (args.map fun a => (a, x)) := by
  have K := h.key u x hu.at_
  have hk : u < σ.ts.length := by have := K.hi; have := h.hn; lia
  obtain ⟨_, hlt, hv, _, hb, hl, hm⟩ := (X.trm u h7 hk).isPlus e
  have hR : Rc σ.bl t u := h.sub u (.inl ⟨x, hu.at_⟩)
  refine h.pop hu (fun q hq => ?_) (fun k y e => ?_) h.con (fun i => ?_) ?_ (fun k hk => ?_) fun k h3 hk7 hk => ?_
  · obtain ⟨a, ha, rfl⟩ := List.mem_map.mp hq
    have := hlt a ha
    have h1 : σ.lv a ≤ σ.lv u := by rw [hl]; exact le_foldr ha
    have h2 := K.lv
    exact ⟨this.1, this.2, Nat.le_trans h1 h2, K.low, Int.dvd_trans K.den (pow6_dvd (by show _ ≤ σ.lv t - σ.lv a; lia))⟩
  · obtain ⟨a, b, d, l⟩ := h.pkey k y e
    have := K.hi
    exact ⟨a, b, by lia, l⟩
  · rw [PV_map, hv i]
  · rw [PM_map, hm]; exact Nat.le_refl _
  · rcases hk with hk | ⟨q, hq, rfl⟩
    · exact .inl hk
    · obtain ⟨a, ha, rfl⟩ := List.mem_map.mp hq
      exact .inr (hR.snoc hb ha)
  · rcases hk with hk | hk
    · exact .inl hk
    · cases hk with
      | refl => lia
      | step e1 ha r =>
        rw [hb] at e1; cases e1
        exact .inr ⟨_, List.mem_map.mpr ⟨_, ha, rfl⟩, r⟩
theorem LinP.popTimes {base : Int} {pt : Nat → Int → Int} {σ : Sg} (X : Sem base pt σ) {t n u : Int} {f p : RF} {c x : Int × Int} (h : LinP σ t n f p c []) (hu : Top1 f u x) (h7 : 7 ≤ u) {a b : Int} {y : Int × Int} (hy : y ∈ nums) (hb3 : 3 ≤ b ∧ b < u) (ha : σ.ts[a.toNat]? = some (numT base y)) (e : σ.ts[u.toNat]? = some ⟨Str.ofString "*", [a, b], base, .i 0⟩) :
    LinP σ t u (upd f u none) p c [(b, rmul x y)] := by
  have K := h.key u x hu.at_
  have hk : u < σ.ts.length := by have := K.hi; have := h.hn; lia
  obtain ⟨hv, _, hb, hl, hm⟩ := (X.trm u h7 hk).isTimes ha e
  have hR : Rc σ.bl t u := h.sub u (.inl ⟨x, hu.at_⟩)
  have hlt := h.hl
  have klv := K.lv
  have e6 : (6 : Int) ^ (σ.lv t - σ.lv u) * 6 = 6 ^ (σ.lv t - σ.lv b) := by
    rw [show σ.lv t - σ.lv b = (σ.lv t - σ.lv u) + 1 by lia, Int.pow_succ]
  obtain ⟨r1, r2, r3⟩ := K.low.mul hy K.den (by rw [e6]; exact pow6_dvd (by lia))
  rw [e6] at r2
  refine h.pop hu (fun q hq => ?_) (fun k y e => ?_) h.con (fun i => ?_) ?_ (fun k hk => ?_) fun k h3 hk7 hk => ?_
  · rcases List.mem_singleton.mp hq with rfl
    exact ⟨hb3.1, hb3.2, by show σ.lv b ≤ _; lia, r1, r2⟩
  · obtain ⟨a, b, d, l⟩ := h.pkey k y e
    have := K.hi
    exact ⟨a, b, by lia, l⟩
  · have : sc (rmul x y) * σ.val b i = sc x * σ.val u i := by
      have py := (nums_pos y hy).1
      refine Int.eq_of_mul_eq_mul_right (a := y.2) (by lia) ?_
      calc sc (rmul x y) * σ.val b i * y.2 = (sc (rmul x y) * y.2) * σ.val b i := by ac_rfl
        _ = sc x * (σ.val b i * y.1) := by rw [r3]; ac_rfl
        _ = sc x * σ.val u i * y.2 := by rw [← hv i]; ac_rfl
    simp only [PV, List.map_cons, List.map_nil, List.sum_cons, List.sum_nil]
    lia
  · have : (sc (rmul x y)).natAbs * σ.ms b ≤ (sc x).natAbs * σ.ms u := by
      rw [hm]
      calc _ ≤ (5 * (sc x).natAbs) * σ.ms b := Nat.mul_le_mul_right _ (mul_abs hy r3)
        _ = _ := by ac_rfl
    simp only [PM, List.map_cons, List.map_nil, List.sum_cons, List.sum_nil]
    lia
  · rcases hk with hk | ⟨q, hq, rfl⟩
    · exact .inl hk
    · rcases List.mem_singleton.mp hq with rfl
      exact .inr (hR.snoc hb (.head _))
  · rcases hk with hk | hk
    · exact .inl hk
    · cases hk with
      | refl => lia
      | step e1 ha r =>
        rw [hb] at e1; cases e1
        rcases List.mem_singleton.mp ha with rfl
        exact .inr ⟨_, .head _, r⟩
theorem LinP.popNum {base : Int} {pt : Nat → Int → Int} {σ : Sg} (X : Sem base pt σ) {t n u : Int} {f p : RF} {c x : Int × Int} (h : LinP σ t n f p c []) (hu : Top1 f u x) (h7 : 7 ≤ u) {y : Int × Int} (hy : y ∈ nums) (e : σ.ts[u.toNat]? = some (numT base y)) :
    LinP σ t u (upd f u none) p (radd c (rmul x y)) [] ∧ Low (rmul x y) ∧ (rmul x y).2 ∣ 6 ^ σ.lv t ∧ (sc (rmul x y)).natAbs ≤ 5 * (sc x).natAbs := by
  have K := h.key u x hu.at_
  have hk : u < σ.ts.length := by have := K.hi; have := h.hn; lia
  obtain ⟨hv, _, hb, hl, hm⟩ := (X.trm u h7 hk).isNum e
  have hlt := h.hl
  have klv := K.lv
  have e6 : (6 : Int) ^ (σ.lv t - σ.lv u) * 6 = 6 ^ σ.lv t := by
    rw [← Int.pow_succ]; congr 1; lia
  obtain ⟨r1, r2, r3⟩ := K.low.mul hy K.den (by rw [e6]; exact pow6_dvd (by lia))
  rw [e6] at r2
  obtain ⟨c1, c2⟩ := h.con
  obtain ⟨d1, d2, d3⟩ := c1.add r1 c2 r2 (pow6_dvd (by lia))
  refine ⟨h.pop hu (fun q hq => nomatch hq) (fun k y e => ?_) ⟨d1, d2⟩ (fun i => ?_) ?_ (fun k hk => ?_) fun k h3 hk7 hk => ?_, r1, r2, mul_abs hy r3⟩
  · obtain ⟨a, b, d, l⟩ := h.pkey k y e
    have := K.hi
    exact ⟨a, b, by lia, l⟩
  · have : sc (rmul x y) * S48 = sc x * σ.val u i := by
      have py := (nums_pos y hy).1
      refine Int.eq_of_mul_eq_mul_right (a := y.2) (by lia) ?_
      calc sc (rmul x y) * S48 * y.2 = (sc (rmul x y) * y.2) * S48 := by ac_rfl
        _ = sc x * (S48 * y.1) := by rw [r3]; ac_rfl
        _ = sc x * σ.val u i * y.2 := by rw [← hv i]; ac_rfl
    simp only [PV, List.map_nil, List.sum_nil]
    rw [d3, Int.add_mul]
    lia
  · have h1 := mul_abs hy r3
    have h2 := Int.natAbs_add_le (sc c) (sc (rmul x y))
    simp only [PM, List.map_nil, List.sum_nil]
    rw [d3, hm]
    lia
  · rcases hk with hk | ⟨q, hq, rfl⟩
    · exact .inl hk
    · exact nomatch hq
  · rcases hk with hk | hk
    · exact .inl hk
    · cases hk with
      | refl => lia
      | step e1 ha r =>
        rcases hb with hb | hb
        · rw [hb] at e1; cases e1
        · rw [hb] at e1; cases e1; exact nomatch ha
theorem LinP.popUnk {base : Int} {pt : Nat → Int → Int} {σ : Sg} (X : Sem base pt σ) {t n u : Int} {f p : RF} {c x : Int × Int} (h : LinP σ t n f p c []) (hu : Top1 f u x) (h7 : u < 7) :
    LinP σ t u (upd f u none) (upd p u (some x)) c [] := by
  have K := h.key u x hu.at_
  have hk : u < σ.ts.length := by have := K.hi; have := h.hn; lia
  have h0 : 0 ≤ u := by have := K.lo; lia
  obtain ⟨_, _, hb, _, hm⟩ := X.unk u K.lo h7
  have hpu : p u = none := by
    cases e : p u with
    | none => rfl
    | some y => have := (h.pkey u y e).2.2.1; have := K.hi; lia
  refine h.pop hu (fun q hq => nomatch hq) (fun k y e => ?_) h.con (fun i => ?_) ?_ (fun k hk => ?_) fun k h3 hk7 hk => ?_
  · by_cases q : k = u
    · subst q
      rw [upd_same] at e
      cases e
      exact ⟨K.lo, h7, by lia, K.low⟩
    · rw [upd_ne q] at e
      obtain ⟨a, b, d, l⟩ := h.pkey k y e
      have := K.hi
      exact ⟨a, b, by lia, l⟩
  · have h2 := sumN_upd (F := FV σ i p) (k := u) (v := scO (some x) * σ.val u i) h0 hk
    rw [← FV_upd] at h2
    have h3 : FV σ i p u = 0 := by show scO (p u) * _ = _; rw [hpu]; show 0 * _ = 0; simp
    have h4 : scO (some x) * σ.val u i = sc x * σ.val u i := rfl
    simp only [PV, List.map_nil, List.sum_nil]
    lia
  · have h2 := sumM_upd (F := FM σ p) (k := u) (v := (scO (some x)).natAbs * σ.ms u) h0 hk
    rw [← FM_upd] at h2
    have h4 : (scO (some x)).natAbs * σ.ms u = (sc x).natAbs * σ.ms u := rfl
    simp only [PM, List.map_nil, List.sum_nil]
    lia
  · rcases hk with ⟨y, hk⟩ | ⟨q, hq, rfl⟩
    · by_cases q : k = u
      · subst q
        exact .inr (h.sub k (.inl ⟨x, hu.at_⟩))
      · rw [upd_ne q] at hk
        exact .inl ⟨y, hk⟩
    · exact nomatch hq
  · rcases hk with ⟨y, hk⟩ | hk
    · by_cases q : k = u
      · subst q
        exact .inl ⟨x, upd_same⟩
      · exact .inl ⟨y, by rw [upd_ne q]; exact hk⟩
    · cases hk with
      | refl => exact .inl ⟨x, upd_same⟩
      | step e1 ha r =>
        rcases hb with hb | hb
        · rw [hb] at e1; cases e1
        · rw [hb] at e1; cases e1; exact nomatch ha
theorem Sem.ms_pos {base : Int} {pt : Nat → Int → Int} {σ : Sg} (X : Sem base pt σ) : ∀ (n : Nat) (k : Int), k.toNat < n → 3 ≤ k → k < σ.ts.length → 1 ≤ σ.ms k
  | 0, _, h, _, _ => nomatch h
  | n + 1, k, hn, h3, hk => by
    by_cases h7 : k < 7
    · have := (X.unk k h3 h7).2.2.2.2; lia
    · cases X.trm k (by lia) hk with
      | num x hx ht hv hw hb hl hm => lia
      | plus args ha hlt ht hv hw hb hl hm =>
        rw [hm]
        match args, ha, hlt with
        | a :: r, _, hlt =>
          have := hlt a (.head _)
          have := X.ms_pos n a (by lia) (by lia) (by lia)
          simp only [List.map_cons, List.sum_cons]; lia
        | [], ha, _ => simp at ha
      | times x hx a b hab hn' ht hv hw hb hl hm =>
        have := X.ms_pos n b (by lia) (by lia) (by lia)
        lia
structure Fits (x : Int × Int) : Prop where
  n0 : x.2 ≠ 0
  l1 : x.1.natAbs < 2 ^ 2000
  l2 : x.2.natAbs < 2 ^ 2000
theorem Low.fits {x : Int × Int} (h : Low x) {B : Nat} (hb : (Mine.sc x).natAbs ≤ 6 ^ 48 * (5 * B)) (hB : B ≤ 7 ^ 40) : Fits x := by
  have p := h.pos
  have h1 : (1 : Int) ≤ S48 / x.2 := by
    obtain ⟨c, hc⟩ := h.dvd
    rw [hc, Int.mul_ediv_cancel_left _ (by lia)]
    have : 0 < x.2 * c := by rw [← hc]; decide
    have := Int.pos_of_mul_pos_right this p
    lia
  have h2 : x.1.natAbs ≤ (Mine.sc x).natAbs := by
    unfold Mine.sc
    rw [Int.natAbs_mul]
    calc x.1.natAbs = x.1.natAbs * 1 := (Nat.mul_one _).symm
      _ ≤ _ := Nat.mul_le_mul_left _ (by lia)
  have h3 : x.2 ≤ S48 := Int.le_of_dvd (by decide) h.dvd
  refine ⟨by lia, Nat.lt_of_le_of_lt (Nat.le_trans h2 (Nat.le_trans hb (Nat.mul_le_mul_left _ (Nat.mul_le_mul_left _ hB)))) (by decide +kernel), Nat.lt_of_le_of_lt (m := 6 ^ 48) ?_ (by decide +kernel)⟩
  have : S48.natAbs = 6 ^ 48 := by decide
  lia
theorem nums_fits {x : Int × Int} (hx : x ∈ nums) : Fits x := by
  obtain ⟨h1, h2, h3, h4⟩ := nums_pos x hx
  exact ⟨by lia, Nat.lt_of_le_of_lt (show x.1.natAbs ≤ 5 by lia) (by decide +kernel), Nat.lt_of_le_of_lt (show x.2.natAbs ≤ 3 by lia) (by decide +kernel)⟩
theorem LinP.sc_le {base : Int} {pt : Nat → Int → Int} {σ : Sg} (X : Sem base pt σ) {t n : Int} {f p : RF} {c : Int × Int} {pend : List (Int × (Int × Int))} (h : LinP σ t n f p c pend) {k : Int} {x : Int × Int} (e : f k = some x) : (sc x).natAbs ≤ 6 ^ 48 * σ.ms t := by
  have K := h.key k x e
  have hk : k < σ.ts.length := by have := K.hi; have := h.hn; lia
  have k3 := K.lo
  have h1 := sumM_le (F := FM σ f) (by lia : 0 ≤ k) hk
  have h2 : FM σ f k = (sc x).natAbs * σ.ms k := by show (scO (f k)).natAbs * _ = _; rw [e]; rfl
  have h3 := h.mass
  have h4 := X.ms_pos _ k (Nat.lt_succ_self _) K.lo hk
  have h5 : (sc x).natAbs * 1 ≤ (sc x).natAbs * σ.ms k := Nat.mul_le_mul_left _ h4
  lia
theorem LinP.sc_pend {base : Int} {pt : Nat → Int → Int} {σ : Sg} (X : Sem base pt σ) {t n : Int} {f p : RF} {c : Int × Int} {a : Int} {x : Int × Int} {pend : List (Int × (Int × Int))} (h : LinP σ t n f p c ((a, x) :: pend)) : (sc x).natAbs ≤ 6 ^ 48 * σ.ms t := by
  have K := h.head
  have hk : a < σ.ts.length := by have := K.hi; have := h.hn; lia
  have h3 := h.mass
  have h4 := X.ms_pos _ a (Nat.lt_succ_self _) K.lo hk
  have h5 : (sc x).natAbs * 1 ≤ (sc x).natAbs * σ.ms a := Nat.mul_le_mul_left _ h4
  simp only [PM, List.map_cons, List.sum_cons] at h3
  lia
theorem LinP.sc_p {base : Int} {pt : Nat → Int → Int} {σ : Sg} (X : Sem base pt σ) {t n : Int} {f p : RF} {c : Int × Int} {pend : List (Int × (Int × Int))} (h : LinP σ t n f p c pend) {k : Int} {x : Int × Int} (e : p k = some x) : (sc x).natAbs ≤ 6 ^ 48 * σ.ms t := by
  obtain ⟨k3, k7, _, _⟩ := h.pkey k x e
  have hl := X.len
  have hk : k < σ.ts.length := by lia
  have h1 := sumM_le (F := FM σ p) (by lia : 0 ≤ k) hk
  have h2 : FM σ p k = (sc x).natAbs * σ.ms k := by show (scO (p k)).natAbs * _ = _; rw [e]; rfl
  have h3 := h.mass
  have h4 := X.ms_pos _ k (Nat.lt_succ_self _) k3 hk
  have h5 : (sc x).natAbs * 1 ≤ (sc x).natAbs * σ.ms k := Nat.mul_le_mul_left _ h4
  lia
theorem LinP.sc_con {σ : Sg} {t n : Int} {f p : RF} {c : Int × Int} {pend : List (Int × (Int × Int))} (h : LinP σ t n f p c pend) : (sc c).natAbs ≤ 6 ^ 48 * σ.ms t := by
  have h3 := h.mass; lia
theorem LinP.start {base : Int} {pt : Nat → Int → Int} {σ : Sg} (X : Sem base pt σ) {t : Int} (h3 : 3 ≤ t) (hk : t < σ.ts.length) (hl : σ.lv t ≤ 40) : LinP σ t (t + 1) (upd (fun _ => none) t (some (1, 1))) (fun _ => none) (0, 1) [] := by
  have z : ∀ i, sumN σ.ts.length (FV σ i fun _ => none) = 0 := fun i => sumN_zero fun k _ _ => by show 0 * _ = 0; simp
  have zm : sumM σ.ts.length (FM σ fun _ => none) = 0 := sumM_zero fun k _ _ => by show (0 : Int).natAbs * _ = 0; simp
  refine ⟨by lia, hl, fun k x e => ?_, fun q hq => (nomatch hq), fun k x e => (nomatch e), ⟨low_zero, Int.one_dvd _⟩, fun i => ?_, ?_, fun k hk => ?_, fun k _ _ r => ?_⟩
  · by_cases q : k = t
    · subst q
      rw [upd_same] at e; cases e
      exact ⟨h3, by lia, Nat.le_refl _, low_one, Int.one_dvd _⟩
    · rw [upd_ne q] at e; cases e
  · have h2 := sumN_upd (F := FV σ i fun _ => none) (k := t) (v := scO (some (1, 1)) * σ.val t i) (by lia) hk
    rw [← FV_upd, z] at h2
    have e1 : FV σ i (fun _ => none) t = 0 := by show 0 * _ = 0; simp
    have e2 : scO (some (1, 1)) = S48 := sc_one
    rw [e1, e2] at h2
    rw [z, sc_zero]
    simp only [PV, List.map_nil, List.sum_nil]
    lia
  · have h2 := sumM_upd (F := FM σ fun _ => none) (k := t) (v := (scO (some (1, 1))).natAbs * σ.ms t) (by lia) hk
    rw [← FM_upd, zm] at h2
    have e2 : scO (some (1, 1)) = S48 := sc_one
    have e3 : S48.natAbs = 6 ^ 48 := by decide
    rw [e2, e3] at h2
    rw [zm, sc_zero]
    simp only [PM, List.map_nil, List.sum_nil]
    have : (0 : Int).natAbs = 0 := rfl
    lia
  · rcases hk with ⟨x, e⟩ | ⟨x, e⟩ | ⟨q, hq, _⟩
    · by_cases q : k = t
      · subst q; exact .refl _
      · rw [upd_ne q] at e; cases e
    · cases e
    · exact nomatch hq
  · exact .inr (.inl ⟨t, _, upd_same, r⟩)
theorem sumN_four {F : Int → Int} : ∀ {n : Nat}, 7 ≤ n → (∀ k : Int, ¬ (3 ≤ k ∧ k < 7) → F k = 0) → sumN n F = F 3 + F 4 + F 5 + F 6
  | 7, _, h => by
    simp only [sumN]
    have h0 := h 0 (by lia); have h1 := h 1 (by lia); have h2 := h 2 (by lia)
    show 0 + F 0 + F 1 + F 2 + F 3 + F 4 + F 5 + F 6 = _
    lia
  | n + 8, _, h => by
    rw [sumN, sumN_four (n := n + 7) (by lia) h]
    have := h ((n + 7 : Nat) : Int) (by lia)
    lia
structure Told (pt : Nat → Int → Int) (σ : Sg) (t : Int) (p : RF) (c : Int × Int) : Prop where
  key : ∀ k x, p k = some x → 3 ≤ k ∧ k < 7 ∧ Low x
  con : Low c
  kb : ∀ k x, p k = some x → (sc x).natAbs ≤ 6 ^ 48 * σ.ms t
  cb : (sc c).natAbs ≤ 6 ^ 48 * σ.ms t
  val : ∀ i, scO (p 3) * pt i 3 + scO (p 4) * pt i 4 + scO (p 5) * pt i 5 + scO (p 6) * pt i 6 + sc c = σ.val t i
  rc : ∀ k, 3 ≤ k → k < 7 → ((∃ x, p k = some x) ↔ Rc σ.bl t k)
theorem LinP.told {base : Int} {pt : Nat → Int → Int} {σ : Sg} (X : Sem base pt σ) {t n : Int} {f p : RF} {c : Int × Int} (h : LinP σ t n f p c []) (hf : ∀ k, f k = none) : Told pt σ t p c := by
  refine ⟨fun k x e => ?_, h.con.1, fun k x e => h.sc_p X e, h.sc_con, fun i => ?_, fun k h3 h7 => ⟨fun e => h.sub k (.inr (.inl e)), fun r => ?_⟩⟩
  · obtain ⟨a, b, _, d⟩ := h.pkey k x e
    exact ⟨a, b, d⟩
  · have h1 := h.val i
    have z : sumN σ.ts.length (FV σ i f) = 0 := sumN_zero fun k _ _ => by show scO (f k) * _ = 0; rw [hf]; show 0 * _ = 0; simp
    have e := sumN_four (F := FV σ i p) X.len fun k hk => by
      show scO (p k) * _ = 0
      cases q : p k with
      | none => show 0 * _ = 0; simp
      | some x => exact absurd ⟨(h.pkey k x q).1, (h.pkey k x q).2.1⟩ hk
    have v : ∀ k : Int, 3 ≤ k → k < 7 → FV σ i p k = S48 * (scO (p k) * pt i k) := fun k a b => by
      show scO (p k) * _ = _
      rw [(X.unk k a b).2.1 i]; ac_rfl
    rw [v 3 (by lia) (by lia), v 4 (by lia) (by lia), v 5 (by lia) (by lia), v 6 (by lia) (by lia)] at e
    rw [z, e] at h1
    simp only [PV, List.map_nil, List.sum_nil] at h1
    refine Int.eq_of_mul_eq_mul_left (a := S48) (by decide) ?_
    rw [← h1]
    simp only [Int.mul_add, Int.zero_add, Int.add_zero]
    rw [Int.mul_comm S48 (sc c)]
  · rcases h.sup k h3 h7 r with q | ⟨j, x, e, _⟩ | ⟨q, hq, _⟩
    · exact q
    · rw [hf] at e; cases e
    · exact nomatch hq
end Mine

open PySem PySem.W PySem.Calls PyProof.Rows
set_option Elab.async false
set_option linter.all false
set_option maxRecDepth 100000
set_option maxHeartbeats 40000000
namespace Mine
theorem ints_of {w : World} {ns : List Int} {vs : List Value} (h : ItemsAre (PySem.intKind PR w) ns vs) : IntsAre vs ns := by
  induction h with
  | nil => exact .nil
  | cons hk _ ih =>
    obtain ⟨t, rfl⟩ := Value.isInt_shape hk
    exact .cons _ t ih
section
variable {w : World} {mean : ExcName → Option Value} {mg mb : Str → Option Value} {dp un : Nat} {fr : Option (List Env)} {gd : Option (List Code)} {s : Shared} {E : Value → Shared → Prop} {Q : Value → Shared → Prop} {hb : Heap}
theorem core_bank {w : World} {W : Wd} {ts : List Tm} {g0 h : Heap} (C0 : Core w W ts g0) (hbi : h.get? W.bA = some (instObj 656 W.dA)) (hbd : h.get? W.dA = some (dictOf (bankEs w W) 14)) (kg : ∀ b o, g0.get? b = some o → h.get? b = some o) : Bank w W ts h := by
  obtain ⟨os, as, ss, ds, n1, n2, n3, n4, nes, nep, xs, C0⟩ := C0
  exact ⟨hbi, hbd, ⟨_, _, _, _, _, _, _, _, _, _, _, C0.keeps0 kg⟩⟩
theorem op_at (G : Gd w mean mg mb hb) (kp : ∀ b o, hb.get? b = some o → s.heap.get? b = some o) (R : Room dp un 3) (W : Wd) (wok : W.Ok) {ts : List Tm} {g0 : Heap} (C0 : Core w W ts g0) (hbi : s.heap.get? W.bA = some (instObj 656 W.dA)) (hbd : s.heap.get? W.dA = some (dictOf (bankEs w W) 14)) (kg : ∀ b o, g0.get? b = some o → s.heap.get? b = some o) (hhi : ∀ a ∈ W.bank, hb.get? a = none) (k : Int) (tk : Tok) (op : Str) (ar : List Int) (so : Int) (d : Dt) (h0 : 0 ≤ k) (h1 : k < 1000) (ht : ts[k.toNat]? = some ⟨op, ar, so, d⟩)
    (hret : ∀ tk h' tk', Keep [] s.heap h' → Q (.str op tk) { s with heap := h', toks := tk' }) :
    wpAny (model PySem.Challenge.rw_sj0101_01.row.prog w) (AR dp un fr gd) (call (.ref 228) [.ref W.bA, .int k tk]) Q E s :=
  op_fn G kp R W wok (core_bank C0 hbi hbd kg) hhi k tk _ h0 h1 ht hret
theorem ints2 {h : Heap} {a : Addr} {x y : Int} (hA : IsTupleKey (PySem.intKind PR w) h [x, y] a) : ∃ t1 t2, IsTup h a #[.int x t1, .int y t2] := by
  obtain ⟨o, items, n, e1, e2, e3, e4⟩ := hA
  have hi : IntsAre items.toList [x, y] := ints_of e4
  obtain ⟨t1, vs, e, hi⟩ := hi.cons_inv
  obtain ⟨t2, vs2, e', hi⟩ := hi.cons_inv
  have := hi.nil_inv
  subst this; subst e'
  refine ⟨t1, t2, o, e1, e2, n, ?_⟩
  rw [e3]
  congr 1
  exact Array.toList_inj.mp e
theorem args_at (G : Gd w mean mg mb hb) (kp : ∀ b o, hb.get? b = some o → s.heap.get? b = some o) (R : Room dp un 3) (W : Wd) (wok : W.Ok) {ts : List Tm} {g0 : Heap} (C0 : Core w W ts g0) (hbi : s.heap.get? W.bA = some (instObj 656 W.dA)) (hbd : s.heap.get? W.dA = some (dictOf (bankEs w W) 14)) (kg : ∀ b o, g0.get? b = some o → s.heap.get? b = some o) (hhi : ∀ a ∈ W.bank, hb.get? a = none) (k : Int) (tk : Tok) (op : Str) (ar : List Int) (so : Int) (d : Dt) (h0 : 0 ≤ k) (h1 : k < 1000) (ht : ts[k.toNat]? = some ⟨op, ar, so, d⟩)
    (hret : ∀ aT h' tk' items, Keep [] s.heap h' → IsTup g0 aT items → IntsAre items.toList ar → Q (.ref aT) { s with heap := h', toks := tk' }) :
    wpAny (model PySem.Challenge.rw_sj0101_01.row.prog w) (AR dp un fr gd) (call (.ref 235) [.ref W.bA, .int k tk]) Q E s := by
  have X₀ := G.X
  revert X₀
  k_fill
  intro X₀
  clear X₀
  have B : Bank w W ts s.heap := core_bank C0 hbi hbd kg
  obtain ⟨os, as, ss, ds, n1, n2, n3, n4, nes, nep, xs, C0⟩ := C0
  have C := C0.keeps0 kg
  have ND := Bank.ND wok B hhi C
  obtain ⟨o, a, so, d, q1, q2, q3, q4, _, ⟨aT, rfl, o', items, n', ho', hc', hd', hi'⟩, _, _⟩ := C0.at_ _ _ ht
  refine call_J (n := 2) _ [((Str.ofString "self"), .ref W.bA), ((Str.ofString "t"), .int k tk)] R G kp ND wok.nd ?_
  intro c G R he en
  dsimp only [List.reverse, List.reverseAux]
  repeat' (first | k_extra "j")
  intro h9 tk8 O9 K9
  exact hret _ _ _ items (keep0 K9 ND O9 (fun p hp => hp)) ⟨o', ho', hc', n', hd'⟩ (ints_of hi')
theorem args2_at (G : Gd w mean mg mb hb) (kp : ∀ b o, hb.get? b = some o → s.heap.get? b = some o) (R : Room dp un 3) (W : Wd) (wok : W.Ok) {ts : List Tm} {g0 : Heap} (C0 : Core w W ts g0) (hbi : s.heap.get? W.bA = some (instObj 656 W.dA)) (hbd : s.heap.get? W.dA = some (dictOf (bankEs w W) 14)) (kg : ∀ b o, g0.get? b = some o → s.heap.get? b = some o) (hhi : ∀ a ∈ W.bank, hb.get? a = none) (k : Int) (tk : Tok) (op : Str) (x y : Int) (so : Int) (d : Dt) (h0 : 0 ≤ k) (h1 : k < 1000) (ht : ts[k.toNat]? = some ⟨op, [x, y], so, d⟩)
    (hret : ∀ aT h' tk' t1 t2, Keep [] s.heap h' → IsTup g0 aT #[.int x t1, .int y t2] → Q (.ref aT) { s with heap := h', toks := tk' }) :
    wpAny (model PySem.Challenge.rw_sj0101_01.row.prog w) (AR dp un fr gd) (call (.ref 235) [.ref W.bA, .int k tk]) Q E s :=
  args_at G kp R W wok C0 hbi hbd kg hhi k tk op [x, y] so d h0 h1 ht fun aT h' tk' items K T I => by
    obtain ⟨t1, vs, e, I⟩ := I.cons_inv
    obtain ⟨t2, vs2, e', I⟩ := I.cons_inv
    have := I.nil_inv
    subst this; subst e'
    have e : items = #[.int x t1, .int y t2] := Array.toList_inj.mp e
    subst e
    exact hret aT h' tk' t1 t2 K T
theorem data_at (G : Gd w mean mg mb hb) (kp : ∀ b o, hb.get? b = some o → s.heap.get? b = some o) (R : Room dp un 3) (W : Wd) (wok : W.Ok) {ts : List Tm} {g0 : Heap} (C0 : Core w W ts g0) (hbi : s.heap.get? W.bA = some (instObj 656 W.dA)) (hbd : s.heap.get? W.dA = some (dictOf (bankEs w W) 14)) (kg : ∀ b o, g0.get? b = some o → s.heap.get? b = some o) (hhi : ∀ a ∈ W.bank, hb.get? a = none) (k : Int) (tk : Tok) (op : Str) (ar : List Int) (so : Int) (x y : Int) (h0 : 0 ≤ k) (h1 : k < 1000) (ht : ts[k.toNat]? = some ⟨op, ar, so, .r x y⟩)
    (hret : ∀ aT h' tk' t1 t2, Keep [] s.heap h' → IsTup g0 aT #[.int x t1, .int y t2] → Q (.ref aT) { s with heap := h', toks := tk' }) :
    wpAny (model PySem.Challenge.rw_sj0101_01.row.prog w) (AR dp un fr gd) (call (.ref 249) [.ref W.bA, .int k tk]) Q E s := by
  have X₀ := G.X
  revert X₀
  k_fill
  intro X₀
  clear X₀
  have B : Bank w W ts s.heap := core_bank C0 hbi hbd kg
  obtain ⟨os, as, ss, ds, n1, n2, n3, n4, nes, nep, xs, C0⟩ := C0
  have C := C0.keeps0 kg
  have ND := Bank.ND wok B hhi C
  obtain ⟨o, a, so, d, q1, q2, q3, q4, _, _, _, ⟨aT, rfl, hD⟩⟩ := C0.at_ _ _ ht
  obtain ⟨t1, t2, hD⟩ := ints2 hD
  refine call_J (n := 2) _ [((Str.ofString "self"), .ref W.bA), ((Str.ofString "t"), .int k tk)] R G kp ND wok.nd ?_
  intro c G R he en
  dsimp only [List.reverse, List.reverseAux]
  repeat' (first | k_extra "j")
  intro h9 tk8 O9 K9
  exact hret _ _ _ t1 t2 (keep0 K9 ND O9 (fun p hp => hp)) hD
end
end Mine

open PySem PySem.W PySem.Calls PyProof.Rows
set_option Elab.async false
set_option linter.all false
set_option maxRecDepth 100000
set_option maxHeartbeats 40000000
namespace Mine
noncomputable def RatIn (g : Heap) (R : List (Addr × Obj)) (a : Addr) (x : Int × Int) : Prop := ∃ t1 t2, (a, tupO [.int x.1 t1, .int x.2 t2]) ∈ R ∨ g.get? a = some (tupO [.int x.1 t1, .int x.2 t2])
theorem RatIn.mono {g : Heap} {R R' : List (Addr × Obj)} {a : Addr} {x : Int × Int} (r : RatIn g R a x) (h : ∀ p ∈ R, p ∈ R') : RatIn g R' a x := by
  obtain ⟨t1, t2, q | q⟩ := r
  · exact ⟨t1, t2, .inl (h _ q)⟩
  · exact ⟨t1, t2, .inr q⟩
noncomputable def RatsAt (g : Heap) (R : List (Addr × Obj)) (kvs : List (Int × Value)) (f : RF) : Prop :=
  ∀ k, match f k with
    | none => valueAt kvs k = none
    | some x => ∃ a, valueAt kvs k = some (.ref a) ∧ RatIn g R a x
theorem RatsAt.mono {g : Heap} {R R' : List (Addr × Obj)} {kvs : List (Int × Value)} {f : RF} (r : RatsAt g R kvs f) (h : ∀ p ∈ R, p ∈ R') : RatsAt g R' kvs f := by
  intro k
  have := r k
  split
  · rename_i e; rw [e] at this; exact this
  · rename_i x e; rw [e] at this
    obtain ⟨a, h1, h2⟩ := this
    exact ⟨a, h1, h2.mono h⟩
theorem RatsAt.set {g : Heap} {R : List (Addr × Obj)} {kvs : List (Int × Value)} {f : RF} (r : RatsAt g R kvs f) {k : Int} {a : Addr} {x : Int × Int} (h : RatIn g R a x) : RatsAt g R (stored kvs k (.ref a)) (upd f k (some x)) := by
  intro j
  by_cases e : j = k
  · subst e
    rw [upd_same]
    exact ⟨a, by rw [valueAt_stored, if_pos rfl], h⟩
  · rw [upd_ne e, valueAt_stored, if_neg e]
    exact r j
theorem valueAt_without {kvs : List (Int × Value)} {k j : Int} : valueAt (without kvs k) j = if j = k then none else valueAt kvs j := by
  unfold valueAt without
  rw [List.find?_filter]
  by_cases e : j = k
  · subst e
    rw [if_pos rfl]
    have : kvs.find? (fun a => decide (decide (a.1 ≠ j) = true ∧ decide (a.1 = j) = true)) = none := List.find?_eq_none.mpr fun a _ => by simp
    simp only [this, Option.map_none]
  · rw [if_neg e]
    congr 2
    funext a
    by_cases q : a.1 = j
    · simp [q, e]
    · simp [q]
theorem RatsAt.pop {g : Heap} {R : List (Addr × Obj)} {kvs : List (Int × Value)} {f : RF} (r : RatsAt g R kvs f) {k : Int} : RatsAt g R (without kvs k) (upd f k none) := by
  intro j
  by_cases e : j = k
  · subst e
    rw [upd_same, valueAt_without, if_pos rfl]
  · rw [upd_ne e, valueAt_without, if_neg e]
    exact r j
theorem RatsAt.none {g : Heap} {R : List (Addr × Obj)} {f : RF} (r : RatsAt g R [] f) : ∀ k, f k = none := by
  intro k
  have := r k
  split at this
  · assumption
  · obtain ⟨a, e, _⟩ := this
    cases e
theorem valueAt_mem {kvs : List (Int × Value)} {k : Int} {v : Value} (h : valueAt kvs k = some v) : ∃ v, (k, v) ∈ kvs := by
  unfold valueAt at h
  cases q : kvs.find? (fun kv => decide (kv.1 = k)) with
  | none => rw [q] at h; cases h
  | some kv =>
    have h1 := List.mem_of_find?_eq_some q
    have h2 := List.find?_some q
    simp only [decide_eq_true_eq] at h2
    exact ⟨kv.2, by rw [← h2]; exact h1⟩
theorem mem_valueAt {kvs : List (Int × Value)} {k : Int} {v : Value} (h : (k, v) ∈ kvs) : ∃ v, valueAt kvs k = some v := by
  unfold valueAt
  cases q : kvs.find? (fun kv => decide (kv.1 = k)) with
  | none => exact absurd (List.find?_eq_none.mp q _ h) (by simp)
  | some kv => exact ⟨kv.2, rfl⟩
theorem RatsAt.top {g : Heap} {R : List (Addr × Obj)} {kvs : List (Int × Value)} {f : RF} (r : RatsAt g R kvs f) {u : Int} (h : IsMaxKey kvs u) : ∃ x a, Top1 f u x ∧ valueAt kvs u = some (.ref a) ∧ RatIn g R a x := by
  obtain ⟨v, hv⟩ := h.mem
  obtain ⟨v', e⟩ := mem_valueAt hv
  have q := r u
  split at q
  · rw [q] at e; cases e
  · rename_i x ex
    obtain ⟨a, e1, e2⟩ := q
    refine ⟨x, a, ⟨ex, fun k y hy => ?_⟩, e1, e2⟩
    have q2 := r k
    rw [hy] at q2
    obtain ⟨b, e3, _⟩ := q2
    obtain ⟨v2, hm⟩ := valueAt_mem e3
    exact h.max _ hm
theorem RatsAt.look {g : Heap} {R : List (Addr × Obj)} {kvs : List (Int × Value)} {f : RF} (r : RatsAt g R kvs f) {z : Addr} (hz : RatIn g R z (0, 1)) (k : Int) : ∃ a, (valueAt kvs k).getD (.ref z) = .ref a ∧ RatIn g R a ((f k).getD (0, 1)) := by
  have q := r k
  split at q
  · rename_i e
    rw [q, e]
    exact ⟨z, rfl, hz⟩
  · rename_i x e
    obtain ⟨a, e1, e2⟩ := q
    rw [e1, e]
    exact ⟨a, rfl, e2⟩
theorem Sem.app3 {base : Int} {pt : Nat → Int → Int} {σ : Sg} (X : Sem base pt σ) {u : Int} (h3 : 3 ≤ u) (h7 : u < 7) (h6 : ¬ u = 6) : ∃ ar d, σ.ts[u.toNat]? = some ⟨(Str.ofString "app"), ar, base, d⟩ := by
  have : u = 3 ∨ u = 4 ∨ u = 5 := by lia
  rcases this with rfl | rfl | rfl
  · exact ⟨_, _, X.u3⟩
  · exact ⟨_, _, X.u4⟩
  · exact ⟨_, _, X.u5⟩
theorem le5 {n B : Nat} (h : n ≤ 6 ^ 48 * B) : n ≤ 6 ^ 48 * (5 * B) := Nat.le_trans h (Nat.mul_le_mul_left _ (by lia))
theorem le55 {n k B : Nat} (h : n ≤ 5 * k) (h2 : k ≤ 6 ^ 48 * B) : n ≤ 6 ^ 48 * (5 * B) :=
  calc n ≤ 5 * k := h
    _ ≤ 5 * (6 ^ 48 * B) := Nat.mul_le_mul_left _ h2
    _ = _ := by ac_rfl
theorem LinP.fit {base : Int} {pt : Nat → Int → Int} {σ : Sg} (X : Sem base pt σ) {t n : Int} {f p : RF} {c : Int × Int} {a : Int} {x : Int × Int} {pend : List (Int × (Int × Int))} (h : LinP σ t n f p c ((a, x) :: pend)) (hm : σ.ms t ≤ 7 ^ 40) : Fits ((f a).getD (0, 1)) := by
  cases e : f a with
  | none => exact ⟨by decide, by decide +kernel, by decide +kernel⟩
  | some y =>
    have := h.sc_le X e
    exact (h.key a y e).low.fits (B := σ.ms t) (le5 this) hm
theorem ratUp {g : Heap} {X R : List (Addr × Obj)} {kvs : List (Int × Value)} {f : RF} (r : RatsAt g R kvs f) : RatsAt g (X ++ R) kvs f := r.mono fun _ h => List.mem_append_right _ h
theorem ratUp1 {g : Heap} {X R : List (Addr × Obj)} {a : Addr} {x : Int × Int} (r : RatIn g R a x) : RatIn g (X ++ R) a x := r.mono fun _ h => List.mem_append_right _ h
theorem drop_cons {l : List Int} {i : Nat} {a : Int} (h : l[i]? = some a) : l.drop i = a :: l.drop (i + 1) := by
  obtain ⟨hi, rfl⟩ := List.getElem?_eq_some_iff.mp h
  exact List.drop_eq_getElem_cons hi
theorem ints_at {it : Array Value} {args : List Int} (h : IntsAre it.toList args) {i : Nat} {v : Value} (e : it[i]? = some v) : ∃ a t, args[i]? = some a ∧ v = .int a t := by
  have hi : i < it.size := (Array.getElem?_eq_some_iff.mp e).1
  have hl : it.toList.length = args.length := h.length
  rw [Array.length_toList] at hl
  have ha : i < args.length := by lia
  obtain ⟨t, ht⟩ := h.get i args[i] (List.getElem?_eq_getElem ha)
  refine ⟨args[i], t, List.getElem?_eq_getElem ha, ?_⟩
  rw [Array.getElem?_toList, e] at ht
  exact Option.some.inj ht
theorem ints_size {it : Array Value} {args : List Int} (h : IntsAre it.toList args) : it.size = args.length := by
  have hl : it.toList.length = args.length := h.length
  rwa [Array.length_toList] at hl
noncomputable def RatAt (h : Heap) (a : Addr) (x : Int × Int) : Prop := ∃ t1 t2, IsTup h a #[.int x.1 t1, .int x.2 t2]
theorem RatAt.of {h : Heap} {a : Addr} {x : Int × Int} {t1 t2 : Tok} (e : h.get? a = some (tupO [.int x.1 t1, .int x.2 t2])) : RatAt h a x := ⟨t1, t2, _, e, rfl, _, rfl⟩
noncomputable def RatsIn (h : Heap) (kvs : List (Int × Value)) (f : RF) : Prop :=
  ∀ k, match f k with
    | none => valueAt kvs k = none
    | some x => ∃ a, valueAt kvs k = some (.ref a) ∧ RatAt h a x
noncomputable def ToldAt (w : World) (h0 h : Heap) (a : Addr) (p : RF) (c : Int × Int) : Prop :=
  ∃ (pA cA : Addr) (oP : Obj) (kP : List (Int × Value)), h.get? a = some (tupO [.ref pA, .ref cA]) ∧ h0.get? a = none ∧ h.get? pA = some oP ∧ h0.get? pA = none ∧ oP.IsDictOf (PySem.intKind PR w) kP ∧ RatsIn h kP p ∧ RatAt h cA c ∧ (pA == sysModules) = false ∧ kP.length ≤ 1500
theorem len_ok {a b c n : Nat} (h1 : a ≤ b + 1) (h2 : b ≤ c) (h3 : c + 1 + 3 * n ≤ 3000) : a + 0 + 3 * n ≤ 3000 := by lia
theorem len_ok2 {a b c n : Nat} (h1 : a ≤ b + 1) (h2 : b + (c + 1) + 3 * n ≤ 3000) : a + c + 3 * n ≤ 3000 := by lia
noncomputable def RatL (c : Cx) (l : Led) (a : Addr) (x : Int × Int) : Prop := ∀ h m, Own c l m h → RatAt h a x
theorem RatIn.to {c : Cx} {R l : Led} {a : Addr} {x : Int × Int} (r : RatIn c.g R a x) (s : ∀ p ∈ R, p ∈ l) : RatL c l a x := fun h m O => by
  obtain ⟨t1, t2, q | q⟩ := r
  · exact .of (O.N _ (s _ q)).1
  · exact .of (O.F.keep _ _ q)
theorem RatsAt.to {c : Cx} {R l : Led} {m : Mp} {h : Heap} {kvs : List (Int × Value)} {f : RF} (r : RatsAt c.g R kvs f) (O : Own c l m h) (s : ∀ p ∈ R, p ∈ l) : RatsIn h kvs f := by
  intro k
  have := r k
  split
  · rename_i e; rw [e] at this; exact this
  · rename_i x e; rw [e] at this
    obtain ⟨a, h1, h2⟩ := this
    exact ⟨a, h1, h2.to s h m O⟩
structure BkB (w : World) (c : Cx) (hb : Heap) (W : Wd) (ts : List Tm) (D : Led) : Prop where
  core : Core w W ts c.g
  wok : W.Ok
  gd : ∃ mean mg mb, Gd w mean mg mb hb
  gb : ∀ b o, hb.get? b = some o → c.g.get? b = some o
  hhi : ∀ a ∈ W.bank, hb.get? a = none
  m1 : (W.bA, instObj 656 W.dA) ∈ D
  m2 : (W.dA, dictOf (bankEs w W) 14) ∈ D
section
variable {w : World} {c : Cx} {l D R : Led} {m : Mp} {P : Value → Led → Mp → Prop} {N : Nat} {W : Wd} {ts : List Tm} {hb : Heap} {k so : Int} {tk : Tok} {op : Str} {ar : List Int} {d : Dt}
theorem J.opB (B : BkB w c hb W ts D) (s : ∀ p ∈ D, p ∈ l) (R : Rm c N) (h0 : 0 ≤ k) (h1 : k < 1000) (ht : ts[k.toNat]? = some ⟨op, ar, so, d⟩) (h : ∀ tk, P (.str op tk) l m) (hN : autoParam (3 ≤ N) Mine.aT2._auto_1) : J w c l m (PySem.call (.ref 228) [.ref W.bA, .int k tk]) P :=
  J.call0 fun h' tk Q O ret => by
    obtain ⟨_, _, _, g⟩ := B.gd
    obtain ⟨_, _, _, _, e, r⟩ := R
    rw [e]
    exact op_at g (fun b o e => O.F.keep b o (B.gb b o e)) (Room.le r hN) W B.wok B.core (O.N _ (s _ B.m1)).1 (O.N _ (s _ B.m2)).1 O.F.keep B.hhi k _ op ar so d h0 h1 ht fun tk _ _ K => ret _ _ _ K fun _ => h tk
theorem J.argsB (B : BkB w c hb W ts D) (s : ∀ p ∈ D, p ∈ l) (R : Rm c N) (h0 : 0 ≤ k) (h1 : k < 1000) (ht : ts[k.toNat]? = some ⟨op, ar, so, d⟩) (h : ∀ aT items, IsTup c.g aT items → IntsAre items.toList ar → P (.ref aT) l m) (hN : autoParam (3 ≤ N) Mine.aT2._auto_1) : J w c l m (PySem.call (.ref 235) [.ref W.bA, .int k tk]) P :=
  J.call0 fun h' tk Q O ret => by
    obtain ⟨_, _, _, g⟩ := B.gd
    obtain ⟨_, _, _, _, e, r⟩ := R
    rw [e]
    exact args_at g (fun b o e => O.F.keep b o (B.gb b o e)) (Room.le r hN) W B.wok B.core (O.N _ (s _ B.m1)).1 (O.N _ (s _ B.m2)).1 O.F.keep B.hhi k _ op ar so d h0 h1 ht fun aT _ _ items K T I => ret _ _ _ K fun _ => h aT items T I
theorem J.args2B {x y : Int} (B : BkB w c hb W ts D) (s : ∀ p ∈ D, p ∈ l) (R : Rm c N) (h0 : 0 ≤ k) (h1 : k < 1000) (ht : ts[k.toNat]? = some ⟨op, [x, y], so, d⟩) (h : ∀ aT t1 t2, IsTup c.g aT [.int x t1, .int y t2].toArray → P (.ref aT) l m) (hN : autoParam (3 ≤ N) Mine.aT2._auto_1) : J w c l m (PySem.call (.ref 235) [.ref W.bA, .int k tk]) P :=
  J.call0 fun h' tk Q O ret => by
    obtain ⟨_, _, _, g⟩ := B.gd
    obtain ⟨_, _, _, _, e, r⟩ := R
    rw [e]
    exact args2_at g (fun b o e => O.F.keep b o (B.gb b o e)) (Room.le r hN) W B.wok B.core (O.N _ (s _ B.m1)).1 (O.N _ (s _ B.m2)).1 O.F.keep B.hhi k _ op x y so d h0 h1 ht fun aT _ _ t1 t2 K T => ret _ _ _ K fun _ => h aT t1 t2 T
theorem J.dataB {x : Int × Int} (B : BkB w c hb W ts D) (s : ∀ p ∈ D, p ∈ l) (R : Rm c N) (h0 : 0 ≤ k) (h1 : k < 1000) (ht : ts[k.toNat]? = some ⟨op, ar, so, .r x.1 x.2⟩) (h : ∀ aT, RatL c l aT x → P (.ref aT) l m) (hN : autoParam (3 ≤ N) Mine.aT2._auto_1) : J w c l m (PySem.call (.ref 249) [.ref W.bA, .int k tk]) P :=
  J.call0 fun h' tk Q O ret => by
    obtain ⟨_, _, _, g⟩ := B.gd
    obtain ⟨_, _, _, _, e, r⟩ := R
    rw [e]
    exact data_at g (fun b o e => O.F.keep b o (B.gb b o e)) (Room.le r hN) W B.wok B.core (O.N _ (s _ B.m1)).1 (O.N _ (s _ B.m2)).1 O.F.keep B.hhi k _ op ar so x.1 x.2 h0 h1 ht fun aT _ _ t1 t2 K T => ret _ _ _ K fun _ => h aT fun h m O => ⟨t1, t2, T.keeps O.F.keep⟩
theorem J.methBB {PM : Value × List Value → Led → Mp → Prop} {f : Addr} {name : Str} {pl : PySem.Sem Bool} (G : Gc w c) (B : BkB w c hb W ts D) (s : ∀ p ∈ D, p ∈ l) (hv : getL name (bankEs w W) = some none)
    (h3 : plainGet (heapK w.params) 656 name = true) (h4 : findIn (heapK w.params) (.ref 656) name = some (some (.ref f))) (h5 : isFn (heapK w.params) (.ref f) = true) (k : PM (.ref f, [.ref W.bA]) l m) : J w c l m (getMethod (.ref W.bA) name pl) PM := fun h tk O =>
  method_inst O.F G.X (⟨(O.N _ (s _ B.m1)).1, rfl, rfl, (O.N _ (s _ B.m2)).1⟩ : InstAt h W.bA (instObj 656 W.dA) 656 (some (dictOf (bankEs w W) 14))) h3 h4 h5 hv ⟨_, _, _, _, rfl, O, k⟩
theorem J.addR {a b : Addr} {x y : Int × Int} (G : Gc w c) (R : Rm c N) (ha : RatL c l a x) (hb : RatL c l b y) (fx : Fits x) (fy : Fits y) (h : ∀ d t1 t2, P (.ref d) ((d, tupO [.int (radd x y).1 t1, .int (radd x y).2 t2]) :: l) m) (hN : autoParam (8 ≤ N) Mine.aT2._auto_1) : J w c l m (PySem.call (.ref 109) [.ref a, .ref b]) P := fun h' tk O => by
  obtain ⟨_, _, _, g⟩ := G.gd
  obtain ⟨_, _, _, _, e, r⟩ := R
  obtain ⟨t1, t2, e1⟩ := ha _ _ O
  obtain ⟨u1, u2, e2⟩ := hb _ _ O
  rw [e]
  exact add_fn g O.F.keep (Room.le r hN) a b x y t1 t2 u1 u2 e1 e2 fx.n0 fy.n0 fx.l1 fx.l2 fy.l1 fy.l2 fun d _ _ h'' tk' K n e => ⟨h'', tk', _, _, rfl, O.new K n e, h d _ _⟩
theorem J.mulR {a b : Addr} {x y : Int × Int} (G : Gc w c) (R : Rm c N) (ha : RatL c l a x) (hb : RatL c l b y) (fx : Fits x) (fy : Fits y) (h : ∀ d t1 t2, P (.ref d) ((d, tupO [.int (rmul x y).1 t1, .int (rmul x y).2 t2]) :: l) m) (hN : autoParam (8 ≤ N) Mine.aT2._auto_1) : J w c l m (PySem.call (.ref 116) [.ref a, .ref b]) P := fun h' tk O => by
  obtain ⟨_, _, _, g⟩ := G.gd
  obtain ⟨_, _, _, _, e, r⟩ := R
  obtain ⟨t1, t2, e1⟩ := ha _ _ O
  obtain ⟨u1, u2, e2⟩ := hb _ _ O
  rw [e]
  exact mul_fn g O.F.keep (Room.le r hN) a b x y t1 t2 u1 u2 e1 e2 fx.n0 fy.n0 fx.l1 fx.l2 fy.l1 fy.l2 fun d _ _ h'' tk' K n e => ⟨h'', tk', _, _, rfl, O.new K n e, h d _ _⟩
theorem J.getR {dd z : Addr} {o : Obj} {kvs : List (Int × Value)} {f : RF} (i : Nat) (h1 : nth l i = some (dd, o)) (hd : o.IsDictOf (PySem.intKind PR w) kvs) (lo : (dd == sysModules) = false) (r : RatsAt c.g R kvs f) (hz : RatIn c.g R z (0, 1)) (h : ∀ a, RatIn c.g R a ((f k).getD (0, 1)) → P (.ref a) l m) :
    J w c l m (PySem.call (.builtin "dict.get") [.ref dd, .int k tk, .ref z]) P := by
  obtain ⟨a, e, ha⟩ := r.look hz k
  exact J.kget (PySem.intKind PR w) i h1 lo hd (intKind_is _ _ _ _) _ rfl (by rw [e]; exact h a ha)
end
theorem RatIn.hd {g : Heap} {R : Led} {a : Addr} {x : Int × Int} {t1 t2 : Tok} : RatIn g ((a, tupO [.int x.1 t1, .int x.2 t2]) :: R) a x := ⟨t1, t2, .inl (.head _)⟩
theorem RatIn.nil {g : Heap} {R : Led} {a : Addr} {x : Int × Int} (r : RatIn g [] a x) : RatIn g R a x := r.mono fun _ h => nomatch h
theorem sub_in {D R l : Led} (a : ∀ p ∈ D, p ∈ R) (b : ∀ p ∈ R, p ∈ l) : ∀ p ∈ D, p ∈ l := fun p hp => b p (a p hp)
theorem apart_of {a : Addr} {l D : Led} (n : ∀ q ∈ l, a ≠ q.1) (s : ∀ p ∈ D, p ∈ l) : a ∉ D.map (·.1) := fun q => by
  obtain ⟨p, hp, e⟩ := List.mem_map.mp q
  exact n p (s p hp) e.symm
theorem skip5 {a b c d e : Addr × Obj} {R : Led} : ∀ p ∈ R, p ∈ a :: b :: c :: d :: e :: R := fun _ hp => .tail _ (.tail _ (.tail _ (.tail _ (.tail _ hp))))
structure LinS (w : World) (c : Cx) (σ : Sg) (t n : Int) (pend : List (Int × (Int × Int))) (cA : Addr) (oP oD : Obj) (kP kD : List (Int × Value)) (D R : Led) (f p : RF) (cc : Int × Int) : Prop where
  dP : oP.IsDictOf (PySem.intKind PR w) kP
  dD : oD.IsDictOf (PySem.intKind PR w) kD
  rP : RatsAt c.g R kP p
  rD : RatsAt c.g R kD f
  rc : RatIn c.g R cA cc
  lin : LinP σ t n f p cc pend
  lD : kD.length + pend.length + 3 * n.toNat ≤ 3000
  lP : kP.length + n.toNat ≤ 1500
  sub : ∀ q ∈ D, q ∈ R
structure LinM (jA pA cA dA : Addr) (m : Mp) : Prop where
  l1 : m.lookup (Str.ofString "self") = some (.ref jA)
  l2 : m.lookup (Str.ofString "parts") = some (.ref pA)
  l3 : m.lookup (Str.ofString "constant") = some (.ref cA)
  l4 : m.lookup (Str.ofString "due") = some (.ref dA)
inductive LinI (w : World) (c : Cx) (σ : Sg) (t : Int) (jA jd pA dA : Addr) (oJ : Obj) (D : Led) (k : Nat) (l : Led) (m : Mp) : Prop
  | mk (cA : Addr) (n : Int) (oP oD : Obj) (kP kD : List (Int × Value)) (R : Led) (f p : RF) (cc : Int × Int) (pm : l.Perm ([(dA, oD), (pA, oP), (jA, instObj 733 jd), (jd, oJ)] ++ R)) (M : LinM jA pA cA dA m) (e : k = n.toNat) (S : LinS w c σ t n [] cA oP oD kP kD D R f p cc) : LinI w c σ t jA jd pA dA oJ D k l m
inductive LinF (w : World) (c : Cx) (σ : Sg) (t : Int) (jA jd pA dA : Addr) (oJ : Obj) (D : Led) (n : Int) (fa : Addr) (x : Int × Int) (args : List Int) (i : Nat) (l : Led) (m : Mp) : Prop
  | mk (cA : Addr) (oP oD : Obj) (kP kD : List (Int × Value)) (R : Led) (f p : RF) (cc : Int × Int) (pm : l.Perm ([(dA, oD), (pA, oP), (jA, instObj 733 jd), (jd, oJ)] ++ R)) (M : LinM jA pA cA dA m) (mf : m.lookup (Str.ofString "factor") = some (.ref fa)) (rx : RatIn c.g R fa x) (S : LinS w c σ t n ((args.drop i).map fun a => (a, x)) cA oP oD kP kD D R f p cc) : LinF w c σ t jA jd pA dA oJ D n fa x args i l m
theorem one_key {g : Heap} {R : Led} {t : Int} (o : RatIn g [] 660 (1, 1)) : RatsAt g R [(t, .ref 660)] (upd (fun _ => none) t (some (1, 1))) := fun k => by
  by_cases q : k = t
  · subst q
    rw [upd_same]
    exact ⟨660, by simp [valueAt], o.nil⟩
  · rw [upd_ne q]
    show valueAt _ _ = none
    simp [valueAt, Ne.symm q]
section
variable {w : World} {mean : ExcName → Option Value} {mg mb : Str → Option Value} {dp un : Nat} {fr : Option (List Env)} {gd : Option (List Code)} {s : Shared} {E : Value → Shared → Prop} {Q : Value → Shared → Prop} {hb : Heap}
variable {σ : Sg} {pt : Nat → Int → Int}
theorem linear_fn (G : Gd w mean mg mb hb) (kp : ∀ b o, hb.get? b = some o → s.heap.get? b = some o) (R : Room dp un 16) (W : Wd) (wok : W.Ok) {base : Int} (X : Sem base pt σ) (B : Bank w W σ.ts s.heap) (hhi : ∀ a ∈ W.bank, hb.get? a = none)
    (jA jd ep : Nat) (jt : Tok) (hj : s.heap.get? jA = some (instObj 733 jd)) (hjd : s.heap.get? jd = some (dictOf [⟨PyData.keyHash w.params (Str.ofString "bank"), .str (Str.ofString "bank") jt, .ref W.bA⟩] ep)) (hj' : hb.get? jA = none) (hjd' : hb.get? jd = none) (hlt : jd < jA) (hjB : W.nA < jd)
    (t : Int) (tt : Tok) (h3 : 3 ≤ t) (ht : t < σ.ts.length) (hl : σ.lv t ≤ 40) (hm : σ.ms t ≤ 7 ^ 40) (hz : σ.ts.length ≤ 890)
    (hret : ∀ a h' tk' p c, Keep [] s.heap h' → ToldAt w s.heap h' a p c → Told pt σ t p c → Q (.ref a) { s with heap := h', toks := tk' }) :
    wpAny (model PySem.Challenge.rw_sj0101_01.row.prog w) (AR dp un fr gd) (call (.ref 681) [.ref jA, .int t tt]) Q E s := by
  have X₀ := G.X
  revert X₀
  k_fill
  intro X₀
  clear X₀
  obtain ⟨oJ, eJ⟩ : ∃ o, o = dictOf [⟨PyData.keyHash w.params (Str.ofString "bank"), .str (Str.ofString "bank") jt, .ref W.bA⟩] ep := ⟨_, rfl⟩
  rw [← eJ] at hjd
  have mb := @Wd.mem W
  have ND : ∀ p ∈ [(jA, instObj 733 jd), (jd, oJ), (W.bA, instObj 656 W.dA), (W.dA, dictOf (bankEs w W) 14)], s.heap.get? p.1 = some p.2 ∧ hb.get? p.1 = none :=
    List.forall_mem_cons.mpr ⟨⟨hj, hj'⟩, List.forall_mem_cons.mpr ⟨⟨hjd, hjd'⟩, List.forall_mem_cons.mpr ⟨⟨B.inst, hhi _ mb.2.1⟩, List.forall_mem_cons.mpr ⟨⟨B.dict, hhi _ mb.1⟩, List.forall_mem_nil _⟩⟩⟩⟩
  have q1 : W.dA < W.bA := wok.o1
  have q2 : W.bA < jd := Nat.lt_of_le_of_lt (wok.leN _ mb.2.1).2 hjB
  have nd : Nd [(jA, instObj 733 jd), (jd, oJ), (W.bA, instObj 656 W.dA), (W.dA, dictOf (bankEs w W) 14)] := by
    refine Nd.cons ?_ (Nd.cons ?_ (Nd.cons ?_ (Nd.cons ?_ .nil)))
    · exact List.forall_mem_cons.mpr ⟨hlt, List.forall_mem_cons.mpr ⟨Nat.lt_trans q2 hlt, List.forall_mem_cons.mpr ⟨Nat.lt_trans q1 (Nat.lt_trans q2 hlt), List.forall_mem_nil _⟩⟩⟩
    · exact List.forall_mem_cons.mpr ⟨q2, List.forall_mem_cons.mpr ⟨Nat.lt_trans q1 q2, List.forall_mem_nil _⟩⟩
    · exact List.forall_mem_cons.mpr ⟨q1, List.forall_mem_nil _⟩
    · exact List.forall_mem_nil _
  have G0 := G
  refine call_J (n := 15) _ [((Str.ofString "self"), .ref jA), ((Str.ofString "t"), .int t tt)] R G kp ND nd ?_
  intro c G R he en
  have tk0 := en.tup ND (List.forall_mem_cons.mpr ⟨by simp, List.forall_mem_cons.mpr ⟨by rw [eJ]; simp, List.forall_mem_cons.mpr ⟨by simp, List.forall_mem_cons.mpr ⟨by simp, List.forall_mem_nil _⟩⟩⟩⟩)
  have Bg : Core w W σ.ts c.g := by
    refine B.core.cases fun os as ss ds n1 n2 n3 n4 nes nep xs C => ?_
    have k : ∀ a o, a ∈ W.core → s.heap.get? a = some o → c.g.get? a = some o := fun a o ha e => en.gs a o (by
      have h1 : a ≠ W.bA := fun e => wok.bN (e ▸ ha)
      have h2 : a ≠ W.dA := fun e => wok.dN (e ▸ ha)
      have h3 := (wok.leN a (Wd.core_bank a ha)).2
      exact List.not_mem_cons_of_ne_of_not_mem (Nat.ne_of_lt (Nat.lt_of_le_of_lt h3 (Nat.lt_trans hjB hlt))) (List.not_mem_cons_of_ne_of_not_mem (Nat.ne_of_lt (Nat.lt_of_le_of_lt h3 hjB)) (List.not_mem_cons_of_ne_of_not_mem h1 (List.not_mem_cons_of_ne_of_not_mem h2 List.not_mem_nil)))) e
    have mc := @Wd.memC W
    exact ⟨_, _, _, _, _, _, _, _, _, _, _, C.tup tk0 (k _ _ mc.1 C.ops) (k _ _ mc.2.1 C.args) (k _ _ mc.2.2.1 C.sorts) (k _ _ mc.2.2.2.1 C.datas) (k _ _ mc.2.2.2.2 C.nums)⟩
  have BB : BkB w c hb W σ.ts [(W.bA, instObj 656 W.dA), (W.dA, dictOf (bankEs w W) 14)] := ⟨Bg, wok, ⟨_, _, _, G0⟩, en.gb, hhi, .head _, .tail _ (.head _)⟩
  have z0 : RatIn c.g [] 659 (0, 1) := ⟨_, _, .inr (G.X _ _ (by k_is))⟩
  have z1 : RatIn c.g [] 660 (1, 1) := ⟨_, _, .inr (G.X _ _ (by k_is))⟩
  dsimp only [List.reverse, List.reverseAux]
  k_with "lin_MLin" => ((with_reducible refine (?_ : J _ _ _ _ (exec (.Assign [.Tuple _ _ _] _ _) _) _)); first | refine J.tupS he R [(Str.ofString "parts"), (Str.ofString "constant"), (Str.ofString "due")] ?_ | refine J.tupS he R [(Str.ofString "op"), (Str.ofString "some")] ?_)
  k_with "lin_MLin" => ((with_reducible refine (?_ : KTupS _ _ _ _ _)); refine ⟨_, _, rfl, .head _, rfl, ?_⟩; dsimp only [List.reverse, List.reverseAux, binds])
  k_with "lin_MLin" => ((with_reducible refine J.dict0 ?_ ?_); (focus assumption); intro d8 o8 lo8 hi8 hs8)
  k_with "lin_MLin" => ((with_reducible refine J.dict1 ?_ ?_); (focus assumption); intro d9 o9 lo9)
  k_with "lin_MLin" => ((with_reducible refine (?_ : KDict1 _ _ _ _ _ _ _ _)); refine ⟨_, _, _, rfl, by k_extra "upf", fun o7 hd7 => ?_⟩)
  repeat' (first | k_extra "lin_MLin" | k_extra "j")
  refine J.while (LinI w c σ t jA jd d8 d9 oJ _) ⟨659, t + 1, o8, o7, [], _, _, _, _, _, rot [_] [_, _, _, _] _, ⟨rfl, rfl, rfl, rfl⟩, rfl, hi8, hd7, fun k => rfl, one_key z1, z0.nil, LinP.start X h3 ht hl, by simp; lia, by simp; lia, fun q h => .tail _ h⟩ ?_
  rintro n9 l9 m9 ⟨cA9, n8, oP9, oD9, kP9, kD9, R9, f9, p9, c9, pm9, ⟨lk1, lk2, lk3, lk4⟩, rfl, dP9, dD9, rP9, rD9, rc9, lin9, lD9, lP9, sub9⟩
  refine J.perm pm9 ?_
  dsimp only [List.cons_append, List.nil_append]
  subst eJ
  k_with "name_MLin" => (first | rfl | exact lk1 | exact lk2 | exact lk3 | exact lk4)
  k_with "lin_MLin" => ((with_reducible refine (?_ : J _ _ _ _ (eval (.Name _ _) _) _)); refine J.name he (by k_extra "name_MLin") ?_)
  k_with "lin_MLin" => ((with_reducible refine (?_ : J _ _ _ _ (PySem.call (.builtin "len") _) _)); refine J.lenD (PySem.intKind PR w) _ (by k_extra "nth") dD9 lo9 (by lia) ?_; intro t_l)
  by_cases hk9 : kD9 = []
  · subst hk9
    have fz9 := rD9.none
    repeat' (first | k_extra "lin_MLin" | k_extra "j")
    intro h9 tk9 O9 K9
    have n0 := List.pairwise_cons.mp O9.nd
    have n1 := List.pairwise_cons.mp n0.2
    have n2 := List.pairwise_cons.mp n1.2
    have sD : ∀ p ∈ [(jA, instObj 733 jd), (jd, dictOf [⟨PyData.keyHash w.params (Str.ofString "bank"), .str (Str.ofString "bank") jt, .ref W.bA⟩] ep), (W.bA, instObj 656 W.dA), (W.dA, dictOf (bankEs w W) 14)], p ∈ (jA, instObj 733 jd) :: (jd, dictOf [⟨PyData.keyHash w.params (Str.ofString "bank"), .str (Str.ofString "bank") jt, .ref W.bA⟩] ep) :: R9 :=
      List.forall_mem_cons.mpr ⟨.head _, List.forall_mem_cons.mpr ⟨.tail _ (.head _), fun p hp => .tail _ (.tail _ (sub9 p hp))⟩⟩
    refine hret _ _ _ p9 c9 (keep0 K9 ND O9 fun p hp => .tail _ (.tail _ (.tail _ (sD p hp)))) ⟨_, cA9, oP9, kP9, (O9.N _ (.head _)).1, fresh_of en.gs O9.N (.head _) (apart_of n0.1 fun p hp => .tail _ (.tail _ (sD p hp))), (O9.N _ (.tail _ (.tail _ (.head _)))).1, fresh_of en.gs O9.N (.tail _ (.tail _ (.head _))) (apart_of n2.1 sD), dP9, rP9.to O9 skip5, rc9.to skip5 _ _ O9, lo8, by lia⟩ (lin9.told X fz9)
  have hn9 := lin9.hn
  have hpos : 0 < kD9.length := List.length_pos_iff.mpr hk9
  refine Exists.elim (IsMaxKey.ex hk9) fun u hu => Exists.elim (rD9.top hu) fun x q => Exists.elim q fun fa q => ?_
  have top := q.1
  have va := q.2.1
  have rx := q.2.2
  clear q
  have K := lin9.key u x top.at_
  have klo := K.lo
  have khi := K.hi
  have u0 : 0 ≤ u := by lia
  have u1 : u < 1000 := by lia
  have un : u.toNat < n8.toNat := by lia
  have fitx : Fits x := K.low.fits (B := σ.ms t) (le5 (lin9.sc_le X top.at_)) hm
  have rp9 := RatsAt.pop rD9 (k := u)
  have lw9 : (without kD9 u).length + 3 * u.toNat + 3 ≤ 3000 := by have := length_without_le kD9 u; simp only [List.length_nil] at lD9; lia
  have lk9 : kP9.length + u.toNat + 1 ≤ 1500 := by lia
  have zR9 : RatIn c.g R9 659 (0, 1) := z0.nil
  k_with "subD_MLin" => (refine sub_in sub9 ?_; k_extra "sub")
  k_with "rat_MLin" => (first | exact RatIn.to (by assumption) (by k_extra "sub") | assumption | exact fun h m O => .of (O.N _ (.head _)).1)
  k_with "lin_MLin" => ((with_reducible refine (?_ : J _ _ _ _ (PySem.call (.builtin "max") _) _)); refine J.maxD R _ (by k_extra "nth") dD9 lo9 hu ?_; intro t_l)
  k_with "lin_MLin" => ((with_reducible refine (?_ : J _ _ _ _ (getMethod (.ref d9) _ _) _)); first | refine J.popmeth (PySem.intKind PR w) _ (by k_extra "nth") dD9 ?_ | refine J.kmeth (PySem.intKind PR w) _ (by k_extra "nth") (by assumption) ?_)
  k_with "lin_MLin" => ((with_reducible refine (?_ : J _ _ _ _ (PySem.call (.builtin "dict.pop") _) _)); refine J.popD (PySem.intKind PR w) (by k_extra "upf") dD9 (intKind_is _ _ _ _) rfl va (by lia) ?_; intro oW dW)
  k_with "lin_MLin" => ((with_reducible refine (?_ : J _ _ _ _ (getMethod (.ref W.bA) _ _) _)); refine J.methBB (by assumption) BB (by k_extra "subD_MLin") (by k_get) (by k_is) (by k_is) (by k_is) ?_)
  k_with "lin_MLin" => ((with_reducible refine (?_ : J _ _ _ _ (PySem.call (.ref 228) _) _)); refine J.opB BB (by k_extra "subD_MLin") R (by assumption) (by assumption) (by assumption) ?_; intro t_l)
  k_with "lin_MLin" => ((with_reducible refine (?_ : J _ _ _ _ (PySem.call (.ref 235) _) _)); first | (refine J.args2B BB (by k_extra "subD_MLin") R (by assumption) (by assumption) (by assumption) ?_; intro a9 t8 t7 T9) | (refine J.argsB BB (by k_extra "subD_MLin") R (by assumption) (by assumption) (by assumption) ?_; intro a9 it9 T9 I9))
  k_with "lin_MLin" => ((with_reducible refine (?_ : J _ _ _ _ (PySem.call (.ref 249) _) _)); refine J.dataB BB (by k_extra "subD_MLin") R (by assumption) (by assumption) (by assumption) ?_; intro a9 T8)
  k_with "lin_MLin" => ((with_reducible refine (?_ : J _ _ _ _ (PySem.call (.ref 109) _) _)); refine J.addR (by assumption) R (by k_extra "rat_MLin") (by k_extra "rat_MLin") (by assumption) (by assumption) ?_; intro b9 t_l u_l)
  k_with "lin_MLin" => ((with_reducible refine (?_ : J _ _ _ _ (PySem.call (.ref 116) _) _)); refine J.mulR (by assumption) R (by k_extra "rat_MLin") (by k_extra "rat_MLin") (by assumption) (by assumption) ?_; intro b9 t_l u_l)
  k_with "lin_MLin" => ((with_reducible refine (?_ : J _ _ _ _ (PySem.call (.builtin "dict.get") _) _)); refine J.getR _ (by k_extra "nth") (by assumption) lo9 (by assumption) (by assumption) ?_; intro g9 rg9)
  k_with "lin_MLin" => ((with_reducible refine (?_ : J _ _ _ _ (subscriptTail _ _ (.ref _) (.int _ _)) _)); refine J.itemTT (vs := [_, _]) (by assumption) (by decide) (by decide) rfl rfl ?_)
  k_with "lin_MLin" => ((with_reducible refine (?_ : J _ _ _ _ (setItem (.ref d9) _ _) _)); refine J.kset (PySem.intKind PR w) (by k_extra "upf") (by assumption) (intKind_is _ _ _ _) (by lia) ?_; intro oS dS)
  k_with "lin_MLin" => ((with_reducible refine (?_ : J _ _ _ _ (setItem (.ref d8) _ _) _)); refine J.kset (PySem.intKind PR w) (by k_extra "upf") dP9 (intKind_is _ _ _ _) (by lia) ?_; intro oS dS)
  have subX : ∀ X : Led, ∀ q ∈ [(W.bA, instObj 656 W.dA), (W.dA, dictOf (bankEs w W) 14)], q ∈ X ++ R9 := fun X q hq => List.mem_append_right _ (sub9 q hq)
  by_cases hu7 : u < 7
  · have lp9 := lin9.popUnk X top hu7
    by_cases e6 : u = 6
    · have ht9 : σ.ts[u.toNat]? = some ⟨Str.ofString "*", [3, 4], base, .i 0⟩ := by rw [e6]; exact X.u6
      have ht3 : σ.ts[(3 : Int).toNat]? = some ⟨(Str.ofString "app"), [], base, .i 0⟩ := X.u3
      have a30 : (0 : Int) ≤ 3 := by decide
      have a31 : (3 : Int) < 1000 := by decide
      repeat' (first | k_extra "lin_MLin" | k_extra "j")
      exact ⟨u.toNat, un, cA9, u, oS, oW, _, _, [_] ++ R9, _, _, c9, rot [_] [_, _, _, _] _, ⟨lk1, lk2, lk3, lk4⟩, rfl, dS, dW, (ratUp rP9).set (ratUp1 rx), ratUp rp9, ratUp1 rc9, lp9, by simp only [List.length_nil]; lia, Nat.le_trans (Nat.add_le_add_right (stored_length_le _ _ _) _) (by lia), subX _⟩
    · refine Exists.elim (X.app3 klo hu7 e6) fun ar q => Exists.elim q fun dt9 ht9 => ?_
      clear q
      repeat' (first | k_extra "lin_MLin" | k_extra "j")
      exact ⟨u.toNat, un, cA9, u, oS, oW, _, _, [_] ++ R9, _, _, c9, rot [_] [_, _, _, _] _, ⟨lk1, lk2, lk3, lk4⟩, rfl, dS, dW, (ratUp rP9).set (ratUp1 rx), ratUp rp9, ratUp1 rc9, lp9, by simp only [List.length_nil]; lia, Nat.le_trans (Nat.add_le_add_right (stored_length_le _ _ _) _) (by lia), subX _⟩
  have hu7 : 7 ≤ u := by lia
  rcases X.trm u hu7 (by lia) with ⟨y, hy, ht9, _, _, _, _, _⟩ | ⟨args, ha, hlt, ht9, _, _, _, _, _⟩ | ⟨y, hy, a, b, hab, hn9, ht9, _, _, _, _, _⟩
  · have fity := nums_fits hy
    have q := lin9.popNum X top hu7 hy ht9
    have lp9 := q.1
    have r1 := q.2.1
    have r2 := q.2.2.1
    have r3 := q.2.2.2
    clear q
    have fitc : Fits c9 := lin9.con.1.fits (B := σ.ms t) (le5 lin9.sc_con) hm
    have fitr : Fits (rmul x y) := r1.fits (B := σ.ms t) (le55 r3 (lin9.sc_le X top.at_)) hm
    repeat' (first | k_extra "lin_MLin" | k_extra "j")
    exact ⟨u.toNat, un, _, u, oP9, oW, _, _, [_, _, _] ++ R9, _, _, _, rot [_, _, _] [_, _, _, _] _, ⟨lk1, lk2, rfl, lk4⟩, rfl, dP9, dW, ratUp rP9, ratUp rp9, RatIn.hd, lp9, by simp only [List.length_nil]; lia, by lia, subX _⟩
  · have lp9 := lin9.popPlus X top hu7 ht9
    repeat' (first | k_extra "lin_MLin" | k_extra "j")
    refine J.forT he R (LinF w c σ t jA jd d8 d9 (dictOf [⟨PyData.keyHash w.params (Str.ofString "bank"), .str (Str.ofString "bank") jt, .ref W.bA⟩] ep) [(W.bA, instObj 656 W.dA), (W.dA, dictOf (bankEs w W) 14)] u fa x args) ?_
    refine J.name he (by rfl) ?_
    refine ⟨_, _, rfl, T9, ⟨cA9, oP9, oW, kP9, _, [_] ++ R9, _, _, c9, rot [_] [_, _, _, _] _, ⟨lk1, lk2, lk3, lk4⟩, rfl, ratUp1 rx, dP9, dW, ratUp rP9, ratUp rp9, ratUp1 rc9, lp9, by simp only [List.length_map, List.drop_zero]; lia, by lia, subX _⟩, ?_, ?_⟩
    · rintro i v l1 m1 own hv ⟨cA7, oP7, oD7, kP7, kD7, R7, f7, p7, c7, pm7, ⟨k1, k2, k3, k4⟩, k5, rx7, dP7, dD7, rP7, rD7, rc7, lin7, lD7, lP7, sub7⟩ off
      refine Exists.elim (ints_at I9 hv) fun a q => Exists.elim q fun ta q => ?_
      have ea := q.1
      have e7 := q.2
      clear q
      subst e7
      rw [drop_cons ea] at lin7 lD7
      simp only [List.map_cons, List.length_cons, List.length_map] at lin7 lD7
      have fitl := lin7.fit X hm
      have ls9 := lin7.push
      refine J.perm (pm7.append_right own) ?_
      dsimp only [List.cons_append, List.nil_append]
      have rD6 := rD7.mono (R' := R7 ++ own) fun _ h => List.mem_append_left _ h
      have rx6 := rx7.mono (R' := R7 ++ own) fun _ h => List.mem_append_left _ h
      have zR6 : RatIn c.g (R7 ++ own) 659 (0, 1) := z0.nil
      k_with "name_MLin" => (first | rfl | exact k4 | exact k5)
      repeat' (first | k_extra "lin_MLin" | k_extra "j")
      exact ⟨.inl rfl, _, Cut.all (D := _ :: _ :: _ :: _ :: _ :: R7), cA7, oP7, oS, kP7, _, [_] ++ R7, _, _, c7, rot [_] [_, _, _, _] _, ⟨k1, k2, k3, k4⟩, k5, ratUp1 rx7, dP7, dS, ratUp rP7, (ratUp rD7).set RatIn.hd, ratUp1 rc7, ls9, by simp only [List.length_map]; exact len_ok2 (stored_length_le _ _ _) lD7, lP7, fun q hq => List.mem_append_right _ (sub7 q hq)⟩
    · rintro l1 m1 ⟨cA7, oP7, oD7, kP7, kD7, R7, f7, p7, c7, pm7, k1234, k5, rx7, dP7, dD7, rP7, rD7, rc7, lin7, lD7, lP7, sub7⟩
      rw [ints_size I9, List.drop_length] at lin7 lD7
      repeat' (first | k_extra "lin_MLin" | k_extra "j")
      exact ⟨u.toNat, un, cA7, u, oP7, oD7, _, _, R7, _, _, c7, pm7, k1234, rfl, dP7, dD7, rP7, rD7, rc7, lin7, lD7, lP7, sub7⟩
  · have fity := nums_fits hy
    have lp9 := lin9.popTimes X top hu7 hy ⟨hab.2.2.1, hab.2.2.2⟩ hn9 ht9
    have fitr : Fits (rmul x y) := lp9.head.low.fits (B := σ.ms t) (le5 (lp9.sc_pend X)) hm
    have fitl := lp9.fit X hm
    have a30 : (0 : Int) ≤ a := by lia
    have a31 : a < 1000 := by lia
    repeat' (first | k_extra "lin_MLin" | k_extra "j")
    exact ⟨u.toNat, un, cA9, u, oP9, oS, _, _, [_, _, _] ++ R9, _, _, c9, rot [_, _, _] [_, _, _, _] _, ⟨lk1, lk2, lk3, lk4⟩, rfl, dP9, dS, ratUp rP9, (ratUp rp9).set RatIn.hd, ratUp1 rc9, lp9.push, len_ok (stored_length_le _ _ _) (Nat.le_refl _) (by lia), by lia, subX _⟩
end
end Mine

open PySem PySem.W PySem.Calls PyProof.Rows
set_option Elab.async false
set_option linter.all false
set_option maxRecDepth 100000
set_option maxHeartbeats 40000000
namespace Mine
section
variable {prog : Program} {w : World} {A : Around} {E : Value → Shared → Prop} {s : Shared} {env : Env} {h₀ : Heap} {x : Str} {body : List Stmt} {Q : Flow → Shared → Prop}
theorem rangeJ {r : Addr} {a b c : Int} {t u v : Tok} {n : Nat} {m : Str → Option Value} {news : List (Addr × Obj)} (hh : A.handled = none) (hr : IsRange s.heap r a b c t u v) (hs : Builtin.Range.small a b c = true) (hn : Builtin.Range.rangeSize a b c = (n : Int))
    (F : Fr h₀ env.locals s.heap m) (N : News h₀ env.locals s.heap news) (J : Nat → (Str → Option Value) → List (Addr × Obj) → Prop) (h0 : J 0 m news)
    (turn : ∀ i v m₁ news₁ h tk own, i < n → (∃ t, v = .int (a + i * c) t) → J i m₁ news₁ → OwnOff own (news₁.map (·.1)) → Fr h₀ env.locals h (fun y => if y = x then some v else m₁ y) → News h₀ env.locals h (news₁ ++ own) →
      wpAny (model prog w) A (execs body env) (TurnJ h₀ env.locals own (J (i + 1)) { s with heap := h, toks := tk } Q) E { s with heap := h, toks := tk })
    (done : ∀ m₁ news₁ h tk, J n m₁ news₁ → Fr h₀ env.locals h m₁ → News h₀ env.locals h news₁ → Q .next { s with heap := h, toks := tk }) :
    wpAny (model prog w) A (pyIter (.ref r)) (fun it s₂ => LoopAtV prog w A h₀ env x body Q E it s₂) E s := by
  refine wpAny_pyIter_range hr hs ?_
  refine loopJ (Walks.range hh _ a c n) ?_ (fun i h st b hb => ⟨_, List.mem_singleton.mp hb ▸ st⟩) (fun b hb => .inl (List.mem_singleton.mp hb)) F N J h0 turn done
  show IsRangeIter _ _ _ _ _
  rw [hn]; simpa using Heap.get?_push_size _ rfl
end
noncomputable def has (kvs : List (Int × Value)) (k : Int) : Prop := (valueAt kvs k).isSome = true
theorem has_stored {kvs : List (Int × Value)} {k j : Int} {v : Value} : has (stored kvs k v) j ↔ j = k ∨ has kvs j := by
  unfold has
  rw [valueAt_stored]
  by_cases e : j = k
  · simp [e]
  · simp [e]
theorem Sem.bl_ok {base : Int} {pt : Nat → Int → Int} {σ : Sg} (X : Sem base pt σ) {k : Int} {l : List Int} (h3 : 3 ≤ k) (hk : k < σ.ts.length) (e : σ.bl k = some l) : (∀ a ∈ l, 3 ≤ a ∧ a < k) ∧ l.length ≤ 3 := by
  by_cases h7 : k < 7
  · rcases (X.unk k h3 h7).2.2.1 with q | q
    · rw [q] at e; cases e
    · rw [q] at e; cases e; exact ⟨fun _ h => (nomatch h), by simp⟩
  · cases X.trm k (by lia) hk with
    | num x hx ht hv hw hb hl hm =>
      rcases hb with q | q
      · rw [q] at e; cases e
      · rw [q] at e; cases e; exact ⟨fun _ h => (nomatch h), by simp⟩
    | plus args ha hlt ht hv hw hb hl hm =>
      rw [hb] at e; cases e
      exact ⟨hlt, by lia⟩
    | times x hx a b hab hn ht hv hw hb hl hm =>
      rw [hb] at e; cases e
      exact ⟨fun c hc => by rw [List.mem_singleton.mp hc]; lia, by simp⟩
structure Rch (bl : Int → Option (List Int)) (top cur : Int) (kvs : List (Int × Value)) (pend : List Int) : Prop where
  lo : 0 ≤ cur
  hi : cur ≤ top
  sub : ∀ k, has kvs k → 3 ≤ k ∧ Rc bl top k
  psub : ∀ a ∈ pend, 3 ≤ a ∧ a ≤ cur ∧ Rc bl top a
  sup : ∀ k, Rc bl top k → has kvs k ∨ (∃ j, has kvs j ∧ j ≤ cur ∧ Rc bl j k) ∨ (∃ a ∈ pend, Rc bl a k)
  len : kvs.length + pend.length + 3 * cur.toNat ≤ 3000
theorem Rch.push {bl : Int → Option (List Int)} {top cur a : Int} {kvs : List (Int × Value)} {pend : List Int} {v : Value} (h : Rch bl top cur kvs (a :: pend)) : Rch bl top cur (stored kvs a v) pend := by
  have ha := h.psub a (.head _)
  refine ⟨h.lo, h.hi, fun k hk => ?_, fun b hb => h.psub b (.tail _ hb), fun k hk => ?_, ?_⟩
  · rcases has_stored.mp hk with rfl | hk
    · exact ⟨ha.1, ha.2.2⟩
    · exact h.sub k hk
  · rcases h.sup k hk with q | ⟨j, q, e, r⟩ | ⟨b, hb, r⟩
    · exact .inl (has_stored.mpr (.inr q))
    · exact .inr (.inl ⟨j, has_stored.mpr (.inr q), e, r⟩)
    · rcases List.mem_cons.mp hb with rfl | hb
      · exact .inr (.inl ⟨b, has_stored.mpr (.inl rfl), ha.2.1, r⟩)
      · exact .inr (.inr ⟨b, hb, r⟩)
  · have h1 := h.len
    have h2 := stored_length_le kvs a v
    simp only [List.length_cons] at h1
    lia
theorem Rch.down {bl : Int → Option (List Int)} {top cur cur' : Int} {kvs : List (Int × Value)} (h : Rch bl top cur kvs []) (hc : cur' + 1 = cur) (h0 : 0 ≤ cur') (hno : ¬ has kvs cur ∨ bl cur = none) : Rch bl top cur' kvs [] := by
  refine ⟨h0, by have := h.hi; lia, h.sub, fun _ h => (nomatch h), fun k hk => ?_, ?_⟩
  · rcases h.sup k hk with q | ⟨j, q, e, r⟩ | ⟨b, hb, r⟩
    · exact .inl q
    · by_cases ej : j = cur
      · subst ej
        rcases hno with n | n
        · exact absurd q n
        · cases r with
          | refl => exact .inl q
          | step e1 _ _ => rw [n] at e1; cases e1
      · exact .inr (.inl ⟨j, q, by lia, r⟩)
    · exact nomatch hb
  · have := h.len; lia
theorem Rch.open {bl : Int → Option (List Int)} {top cur cur' : Int} {kvs : List (Int × Value)} {l : List Int} (h : Rch bl top cur kvs []) (hc : cur' + 1 = cur) (h0 : 0 ≤ cur') (hm : has kvs cur) (e : bl cur = some l) (hl : ∀ a ∈ l, 3 ≤ a ∧ a < cur) (h3 : l.length ≤ 3) : Rch bl top cur' kvs l := by
  obtain ⟨_, hR⟩ := h.sub cur hm
  refine ⟨h0, by have := h.hi; lia, h.sub, fun a ha => ⟨(hl a ha).1, by have := hl a ha; lia, hR.snoc e ha⟩, fun k hk => ?_, ?_⟩
  · rcases h.sup k hk with q | ⟨j, q, ej, r⟩ | ⟨b, hb, r⟩
    · exact .inl q
    · by_cases ej : j = cur
      · subst ej
        cases r with
        | refl => exact .inl q
        | step e1 ha r =>
          rw [e] at e1; cases e1
          exact .inr (.inr ⟨_, ha, r⟩)
      · exact .inr (.inl ⟨j, q, by lia, r⟩)
    · exact nomatch hb
  · have := h.len
    simp only [List.length_nil] at this
    lia
theorem Rch.start {bl : Int → Option (List Int)} {top : Int} {v : Value} (h3 : 3 ≤ top) (hz : top < 890) : Rch bl top top [(top, v)] [] := by
  have e : ∀ k, has [(top, v)] k ↔ k = top := fun k => by
    unfold has valueAt
    by_cases q : k = top
    · subst q; simp
    · have q' : ¬ top = k := fun x => q x.symm
      simp [q, q']
  refine ⟨by lia, Int.le_refl _, fun k hk => ?_, fun _ h => (nomatch h), fun k hk => ?_, by simp; lia⟩
  · rw [(e k).mp hk]; exact ⟨h3, .refl _⟩
  · exact .inr (.inl ⟨top, (e top).mpr rfl, Int.le_refl _, hk⟩)
theorem Rch.done {bl : Int → Option (List Int)} {top : Int} {kvs : List (Int × Value)} (h : Rch bl top 0 kvs []) (k : Int) : has kvs k ↔ Rc bl top k := by
  refine ⟨fun q => (h.sub k q).2, fun q => ?_⟩
  rcases h.sup k q with q | ⟨j, q, ej, _⟩ | ⟨b, hb, _⟩
  · exact q
  · have := (h.sub j q).1; lia
  · exact nomatch hb
theorem range_down {top : Int} (h : 0 ≤ top) : Builtin.Range.rangeSize top 0 (-1) = (top.toNat : Int) := by
  unfold Builtin.Range.rangeSize
  simp
  split <;> lia
theorem not_has {kvs : List (Int × Value)} {k : Int} (h : ¬ has kvs k) : (valueAt kvs k).isSome = false := by
  cases e : (valueAt kvs k).isSome with
  | false => rfl
  | true => exact absurd e h
theorem small_down {t : Int} (h0 : 0 ≤ t) (h : t < 1000) : Builtin.Range.small t 0 (-1) = true := by
  unfold Builtin.Range.small
  rw [range_down h0]
  simp only [Builtin.Range.rangeFitsLong, Bool.and_eq_true, Bool.or_eq_true, decide_eq_true_eq, beq_iff_eq, show ¬ (-1 : Int) > 0 by decide, if_false]
  lia
end Mine

open PySem PySem.W PySem.Calls PyProof.Rows
set_option Elab.async false
set_option linter.all false
set_option maxRecDepth 100000
set_option maxHeartbeats 40000000
namespace Mine
open LCg LCt
theorem store_runC {c : Cx} {l : Led} {m : Mp} {env : Env} (he : EnvX c env) {w : World} {x : Str} {v : Value} {K : Addr} {o : Obj} {v0 : Option Value} {gg : Obj → Led} {h : Heap} {tk : Nat} {Q : Unit → Shared → Prop} (hx : env.kindOf x = some .cell) (hc : env.cells.lookup x = some K) (u : UpdF K o l gg) (u' : UpF K o l gg) (hd : o.data = .cell v0) (O : Own c l m h)
    (k : ∀ h' tk' o', o'.data = .cell (some v) → Own c (gg o') m h' → Q () (c.st h' tk')) : wpAny (model PR w) c.A (storeName env x v) Q noE (c.st h tk) := by
  obtain ⟨cn, cs, a, ccd, cl, rfl, hk⟩ := he
  exact storeX_C O.F O.N hc u hd (fun h' o' F' N' hd' => k h' tk o' hd' ⟨F', N', (u'.up o').nd O.nd⟩) hk hx
section
variable {w : World} {c : Cx} {l : Led} {m : Mp} {P : Value → Led → Mp → Prop} {PF : Flow → Led → Mp → Prop} {env : Env} {N : Nat}
inductive KAsgC (PF : Flow → Led → Mp → Prop) (K : Addr) (v : Value) (l : Led) (m : Mp) : Prop
  | mk (o : Obj) (v0 : Option Value) (gg : Obj → Led) (u : UpF K o l gg) (hd : o.data = .cell v0) (p : ∀ o', o'.data = .cell (some v) → PF .next (gg o') m) : KAsgC PF K v l m
theorem J.assignC {x : Str} {p' pos : Pos} {e : Expr} {K : Addr} (he : EnvX c env) (hc : env.cells.lookup x = some K) (k : J w c l m (eval e env) (KAsgC PF K))
    (hx : autoParam (env.kindOf x = some .cell) Mine.aT3._auto_1) (hs : autoParam (swapsWith e (some (Expr.Name x p')) pos.line env = pure false) Mine.aT3._auto_1) :
    J w c l m (exec (.Assign [.Name x p'] e pos) env) PF := fun h tk O =>
  wpAny_Assign_Name (k.run O fun v l m h tk O ⟨o, v0, gg, u, hd, p⟩ => store_runC he hx hc (u.upd O.nd) u hd O fun h' tk' o' hd' O' => ⟨_, _, _, _, rfl, O', p o' hd'⟩) hs
theorem J.range3 {a b cc : Int} {t u v : Tok} (hc : cc ≠ 0) (hp : Builtin.divisionGoesByPylong (b - a) cc = false) (k : ∀ d, P (.ref d) ((d, rgO a b cc t u v) :: l) m) : J w c l m (PySem.call (.type "range") [.int a t, .int b u, .int cc v]) P := fun h tk O =>
  call_range_3 hc ⟨_, tk, _, _, rfl, (O.push _).1, k _⟩ (.inl hp)
theorem J.sorted {A : Addr} {vs : List Value} {ns : List Int} {n : Nat} (i : Nat) (h1 : nth l i = some (A, lsO vs.toArray n)) (hi : IntsAre vs ns) (h64 : ns.length < 64) (k : ∀ D vs' ns' n', IntsAre vs' ns' → ns'.Perm ns → ns'.Pairwise (· ≤ ·) → P (.ref D) ((D, lsO vs'.toArray n') :: l) m) :
    J w c l m (PySem.call (.builtin "sorted") [.ref A]) P := fun h tk O =>
  kso_sorted O.F O.N (O.N.isList (nth_mem h1)) hi h64 fun D vs' ns' n' h' F' N' lt I _ p o _ => ⟨_, _, _, _, rfl, ⟨F', N', O.nd.cons lt⟩, k D vs' ns' n' I p o⟩
inductive KForR (w : World) (c : Cx) (PF : Flow → Led → Mp → Prop) (env : Env) (x : Str) (body : List Stmt) (Inv : Nat → Led → Mp → Prop) (xv : Value) (l : Led) (m : Mp) : Prop
  | mk (r : Addr) (a b cc : Int) (t u v : Tok) (n : Nat) (e : xv = .ref r) (hr : (r, rgO a b cc t u v) ∈ l) (hsm : Builtin.Range.small a b cc = true) (hn : Builtin.Range.rangeSize a b cc = ((n : Nat) : Int)) (h0 : Inv 0 l m)
      (turn : ∀ i t l1 m1 own, i < n → Inv i l1 m1 → OwnOff own (l1.map (·.1)) → J w c (l1 ++ own) ((x, .int (a + i * cc) t) :: m1) (execs body env) (TurnE own (Inv (i + 1)))) (done : ∀ l1 m1, Inv n l1 m1 → PF .next l1 m1) : KForR w c PF env x body Inv xv l m
theorem J.forR {x : Str} {px pos : Pos} {iter : Expr} {body : List Stmt} (he : EnvX c env) (R : Rm c N) (Inv : Nat → Led → Mp → Prop) (k : J w c l m (eval iter env) (KForR w c PF env x body Inv))
    (hx : autoParam (env.kindOf x = some .local) Mine.aT3._auto_1) (hs : autoParam (∀ x, foldedSetIterable iter env x = pure x) Mine.aT9._auto_1) : J w c l m (exec (.For (.Name x px) iter body [] pos) env) PF := fun h tk O => by
  obtain ⟨cn, cs, a, ccd, cl, rfl, hk⟩ := he
  obtain ⟨dp, un, fr, gd, eA, _⟩ := R
  refine For_invV c.g hx (by show (cs.kind == .class || (cs.kind == .module && _)) = false; rw [hk]; rfl) (k.run O ?_) hs (by passes_own)
  rintro xv l m h tk O ⟨r, a, b, cc, t, u, v, n, rfl, hr, hsm, hn, h0, turn, done⟩
  exact rangeJ (by rw [eA]) (O.N _ hr).1 hsm hn O.F O.N (fun i mf l1 => ∃ m1, mf = lk m1 ∧ Nd l1 ∧ Inv i l1 m1) ⟨m, rfl, O.nd, h0⟩
    (fun i v m₁ news₁ h tk own hi ⟨t, hv⟩ ⟨m1, e, nd, inv⟩ off F N => by subst e hv; exact turn_of nd off F N fun own off => turn i t news₁ m1 own hi inv off)
    fun m₁ news₁ h tk ⟨m1, e, nd, inv⟩ F N => by subst e; exact ⟨_, _, _, _, rfl, ⟨F, N, nd⟩, done _ _ inv⟩
end
section
variable {w : World} {c : Cx} {l : Led} {m : Mp} {P : Value → Led → Mp → Prop} {env : Env} {ct elt iter : PySem.Expr} {x : Str} {px pos : Pos} {scope : Scope} {cl : List (Str × Addr)}
theorem restT_of {s₂ : Shared} {h0 : Heap} {tk0 : Nat} (e : s₂ = c.st h0 tk0) {S : Led → Prop} {Pi : Nat → Value → Prop} {Inv : Nat → List Value → Prop} {Fin : List Value → Led → Prop} {n : Nat} (hS : S l)
    (turn : ∀ i v I oI C oC D ys m₂, Pi i v → Inv i ys → NsObj oC m₂ → m₂ x = some v →
      J w c ((I, oI) :: (C, oC) :: (D, lst ys) :: l) m (PySem.isTrue ct (compEnvC scope cl C env) (eval ct (compEnvC scope cl C env))) (fun ok l2 m2 => if ok = true then
        J w c l2 m2 (eval elt (compEnvC scope cl C env)) (fun y l3 m3 => m3 = m ∧ Inv (i + 1) (ys ++ [y]) ∧ ∃ pre, l3 = pre ++ (I, oI) :: (C, oC) :: (D, lst ys) :: l)
        else m2 = m ∧ Inv (i + 1) ys ∧ ∃ pre, l2 = pre ++ (I, oI) :: (C, oC) :: (D, lst ys) :: l))
    (nd : Nd l) (fin : ∀ ys, Inv n ys → Fin ys l) : ∀ (k i : Nat) (ys : List Value), i + k = n → Inv i ys → CompRestT PR w c.A c.g c.L (lk m) env ct elt x scope cl s₂ S Pi Fin k i ys l := by
  subst e
  intro k
  induction k with
  | zero => intro i ys e inv; exact fin ys (by rw [← e]; exact inv)
  | succ k ih =>
    intro i ys e inv
    refine .succ fun v I oI C oC D m₂ h tk E' hP ns hx F N off ne => ?_
    refine wpAny_mono (J.run (turn i v I oI C oC D ys m₂ hP inv ns hx) ⟨F, N, nd_off3 nd off ne⟩ (Q := fun ok s' => if ok = true then _ else _) (E := noE) ?_) (fun _ _ h => h) fun _ _ e => False.elim e
    intro ok l2 m2 h2 tk2 O2 p
    cases ok with
    | true =>
      refine wpAny_mono (J.run p O2 ?_) (fun _ _ h => h) fun _ _ e => False.elim e
      rintro y l3 m3 h3 tk3 O3 ⟨rfl, inv', pre, rfl⟩
      exact ⟨h3, tk3, l, rfl, O3.F, fun p hp => O3.N p (List.mem_append_right _ hp), off, hS, ih (i + 1) _ (by lia) inv'⟩
    | false =>
      obtain ⟨rfl, inv', pre, rfl⟩ := p
      exact ⟨h2, tk2, l, rfl, O2.F, fun p hp => O2.N p (List.mem_append_right _ hp), off, hS, ih (i + 1) _ (by lia) inv'⟩
inductive KCompT (w : World) (c : Cx) (m : Mp) (P : Value → Led → Mp → Prop) (env : Env) (ct elt : PySem.Expr) (x : Str) (scope : Scope) (cl : List (Str × Addr)) (Inv : Nat → List Value → Prop) (xv : Value) (l : Led) (m' : Mp) : Prop
  | mk (em : m' = m) (ax : Addr) (its : Array Value) (e : xv = .ref ax) (src : SrcAt c.g ax its l) (hz : its.size ≤ 16384) (inv : Inv 0 [])
      (turn : ∀ i v I oI C oC D ys m₂, its[i]? = some v → Inv i ys → NsObj oC m₂ → m₂ x = some v →
        J w c ((I, oI) :: (C, oC) :: (D, lst ys) :: l) m (PySem.isTrue ct (compEnvC scope cl C env) (eval ct (compEnvC scope cl C env))) (fun ok l2 m2 => if ok = true then
          J w c l2 m2 (eval elt (compEnvC scope cl C env)) (fun y l3 m3 => m3 = m ∧ Inv (i + 1) (ys ++ [y]) ∧ ∃ pre, l3 = pre ++ (I, oI) :: (C, oC) :: (D, lst ys) :: l)
          else m2 = m ∧ Inv (i + 1) ys ∧ ∃ pre, l2 = pre ++ (I, oI) :: (C, oC) :: (D, lst ys) :: l))
      (fin : ∀ ys D, Inv its.size ys → P (.ref D) ((D, lsO ys.toArray ys.length) :: l) m) : KCompT w c m P env ct elt x scope cl Inv xv l m'
theorem J.compT {N : Nat} (R : Rm c N) (Inv : Nat → List Value → Prop) (hclos : closureFor scope env = pure cl)
    (k : J w c l m (eval iter env) (KCompT w c m P env ct elt x scope cl Inv))
    (hcell : autoParam (∀ y ∈ scope.names, y.2 ≠ .cell) Mine.aT5._auto_1) (hkind : autoParam (scope.kind = .function) Mine.aT3._auto_1) (hnames : autoParam (∀ y ∈ scope.names, y.2 = .local → scope.names.lookup y.1 = some .local) Mine.aT5._auto_1) (hx : autoParam (scope.names.lookup x = some .local) Mine.aT3._auto_1)
    (hs : autoParam (∀ x, foldedSetIterable iter env x = pure x) Mine.aT9._auto_1) : J w c l m (eval (.ListComp elt [⟨.Name x px, iter, [ct], 0⟩] scope pos) env) P := fun h0 tk0 O0 => by
  obtain ⟨dp, un, fr, gd, eA, _⟩ := R
  refine ListComp_T O0.F hclos hcell hkind hnames hx (J.run k O0 ?_) hs
  rintro xv l m' h tk O ⟨rfl, ax, its, rfl, src, hz, inv, turn, fin⟩
  refine .inl ⟨ax, its, l, rfl, by rw [eA], O.F, O.N, src, by rw [sizeLine_eq]; lia, ?_⟩
  rintro s₂ ⟨g, rfl⟩
  exact restT_of (h0 := g) (tk0 := tk) rfl src turn O.nd (fun ys inv D h' tk' F' N' o1 => ⟨_, _, _, _, rfl, ⟨F', N', nd_off1 O.nd o1⟩, fin ys D inv⟩) its.size 0 [] (Nat.zero_add _) inv
end
end Mine

open PySem PySem.W PySem.Calls PyProof.Rows
set_option Elab.async false
set_option linter.all false
set_option maxRecDepth 100000
set_option maxHeartbeats 40000000
namespace Mine
theorem Low.odd {x : Int × Int} (h : Low x) : ¬ (x.1.fmod 2 = 0 ∧ x.2.fmod 2 = 0) ∧ ¬ (x.1.fmod 3 = 0 ∧ x.2.fmod 3 = 0) := by
  have key : ∀ p : Int, 1 < p → ¬ (x.1.fmod p = 0 ∧ x.2.fmod p = 0) := by
    rintro p hp ⟨a, b⟩
    have a' : p ∣ x.1 := Int.dvd_of_fmod_eq_zero a
    have b' : p ∣ x.2 := Int.dvd_of_fmod_eq_zero b
    have := Int.dvd_coe_gcd a' b'
    rw [h.low] at this
    have := Int.le_of_dvd (by decide) this
    lia
  exact ⟨key 2 (by decide), key 3 (by decide)⟩
theorem Low.scale {x : Int × Int} (h : Low x) : (6 ^ 48 : Int).fmod x.2 = 0 := Int.fmod_eq_zero_of_dvd h.dvd
section
variable {w : World} {mean : ExcName → Option Value} {mg mb : Str → Option Value} {dp un : Nat} {fr : Option (List Env)} {gd : Option (List Code)} {s : Shared} {E : Value → Shared → Prop} {Q : Value → Shared → Prop} {hb : Heap}
theorem short_fn (G : Gd w mean mg mb hb) (kp : ∀ b o, hb.get? b = some o → s.heap.get? b = some o) (R : Room dp un 6) (a : Addr) (x : Int × Int) (ha : RatAt s.heap a x) (hx : Low x)
    (hret : ∀ h' tk', Keep [] s.heap h' → Q (.bool true) { s with heap := h', toks := tk' }) :
    wpAny (model PySem.Challenge.rw_sj0101_01.row.prog w) (AR dp un fr gd) (call (.ref 792) [.ref a]) Q E s := by
  have X₀ := G.X
  revert X₀
  k_fill
  intro X₀
  clear X₀
  obtain ⟨t1, t2, ha⟩ := ha
  refine call_J (n := 5) [] [((Str.ofString "ratio_told"), .ref a)] R G kp (fun _ h => nomatch h) .nil ?_
  intro c G R he en
  dsimp only [List.reverse, List.reverseAux]
  have ha : IsTup c.g a _ := ha.keeps fun b o e => en.gs b o List.not_mem_nil e
  have h1 := hx.pos
  have h0 : x.2 ≠ 0 := (Int.ne_of_lt h1).symm
  have h2 := hx.odd
  have h3 := hx.scale
  have d2 : (2 : Int) ≠ 0 := by decide
  have d3 : (3 : Int) ≠ 0 := by decide
  k_with "short_MShort" => ((with_reducible refine (?_ : J _ _ _ _ (exec (.Assign [.Tuple _ _ _] _ _) _) _)); refine J.tupN he R [((Str.ofString "top"), _), ((Str.ofString "bottom"), _)] ?_)
  k_with "short_MShort" => ((with_reducible refine (?_ : KTupN _ _ _ _ _ _)); refine ⟨_, [_, _], rfl, fun h O => ha.keeps O.F.keep, rfl, ?_⟩; dsimp only [binds, List.map])
  k_with "short_MShort" => ((with_reducible refine (?_ : J _ _ _ _ (PySem.call (.ref 744) _) _)); refine J.scale (by assumption) (by assumption) ?_; intro t_l)
  k_with "short_MShort" => ((with_reducible refine J.modInt ?_ ?_); (focus assumption); intro t_l)
  k_with "short_MShort" => ((with_reducible refine J.andV ?_))
  k_with "short_MShort" => ((with_reducible refine J.orV ?_))
  k_with "short_MShort" => ((with_reducible refine J.one ?_))
  k_with "short_MShort" => ((with_reducible refine J.cmpV ?_))
  have fin : ∀ b : Bool, b = true → ∀ (m : Mp) h tk, Own c [] m h → Keep (([] : Led).map (·.1)) s.heap h → Q (retOf (.ret (.bool b))) { s with heap := h, toks := tk } := fun b e m h tk O K => e ▸ hret h tk K
  repeat' (first | k_extra "short_MShort" | k_extra "j")
  all_goals
    refine fin _ ?_ _
    rw [bne_iff_ne]
    first
      | assumption
      | (intro e; exact h2.2 ⟨bne_eq_false_iff_eq.mp (by assumption), e⟩)
      | (intro e; exact h2.1 ⟨bne_eq_false_iff_eq.mp (by assumption), e⟩)
theorem J.short {c : Cx} {l : Led} {m : Mp} {P : Value → Led → Mp → Prop} {N : Nat} {a : Addr} {x : Int × Int} (G : Gc w c) (R : Rm c N) (ha : RatL c l a x) (hx : Low x) (k : P (.bool true) l m) (hN : autoParam (6 ≤ N) Mine.aT2._auto_1) : J w c l m (PySem.call (.ref 792) [.ref a]) P :=
  J.con 6 G R hN fun g r _ _ _ O ret => short_fn g O.F.keep r a x (ha _ _ O) hx fun _ _ K => ret _ _ _ K fun _ => k
end
end Mine

open PySem PySem.W PySem.Calls PyProof.Rows
set_option Elab.async false
set_option linter.all false
set_option maxRecDepth 100000
set_option maxHeartbeats 40000000
namespace Mine
theorem one_cell {a : Option Value} (L : Addr) : (([(L + 1, a)] : List (Addr × Option Value)).map (·.1)).Nodup ∧ ∀ x ∈ ([(L + 1, a)] : List (Addr × Option Value)).map (·.1), L < x :=
  ⟨by simp, List.forall_mem_cons.mpr ⟨Nat.lt_succ_self _, List.forall_mem_nil _⟩⟩
theorem lo_of {a : Nat} (h : 1 < a) : (a == sysModules) = false := by
  have : ¬ a = 1 := by lia
  simpa [sysModules] using this
inductive RchI (w : World) (σ : Sg) (t : Int) (mA K : Addr) (oC : Obj) (un wo : Value) (D : Led) (i : Nat) (l : Led) (m : Mp) : Prop
  | mk (oM : Obj) (kM : List (Int × Value)) (R : Led) (pm : l.Perm ([(mA, oM), (K, oC)] ++ (D ++ R))) (lm : m.lookup (Str.ofString "world") = some wo ∧ m.lookup (Str.ofString "unknowns") = some un) (dM : oM.IsDictOf (PySem.intKind PR w) kM) (rc : Rch σ.bl t (t + (i : Int) * (-1)) kM []) : RchI w σ t mA K oC un wo D i l m
inductive RchF (w : World) (σ : Sg) (t cur : Int) (ls : List Int) (mA K : Addr) (oC : Obj) (un wo : Value) (rest : Led) (j : Nat) (l : Led) (m : Mp) : Prop
  | mk (oM : Obj) (kM : List (Int × Value)) (el : l = (mA, oM) :: (K, oC) :: rest) (lm : m.lookup (Str.ofString "world") = some wo ∧ m.lookup (Str.ofString "unknowns") = some un) (dM : oM.IsDictOf (PySem.intKind PR w) kM) (rc : Rch σ.bl t cur kM (ls.drop j)) : RchF w σ t cur ls mA K oC un wo rest j l m
theorem four_int {t3 t4 t5 t6 : Tok} {i : Nat} {v : Value} (h : (#[.int 3 t3, .int 4 t4, .int 5 t5, .int 6 t6] : Array Value)[i]? = some v) : ∃ k t, v = .int k t ∧ [3, 4, 5, 6].take (i + 1) = [3, 4, 5, 6].take i ++ [k] := by
  match i, h with
  | 0, h => cases h; exact ⟨_, _, rfl, rfl⟩
  | 1, h => cases h; exact ⟨_, _, rfl, rfl⟩
  | 2, h => cases h; exact ⟨_, _, rfl, rfl⟩
  | 3, h => cases h; exact ⟨_, _, rfl, rfl⟩
  | n + 4, h => exact absurd h (by simp)
theorem intsAre_snoc {vs : List Value} {ns : List Int} (h : IntsAre vs ns) (k : Int) (t : Tok) : IntsAre (vs ++ [.int k t]) (ns ++ [k]) := by
  induction h with
  | nil => exact .cons _ _ .nil
  | cons a b _ ih => exact .cons _ _ ih
section
variable {w : World} {mean : ExcName → Option Value} {mg mb : Str → Option Value} {dp un : Nat} {fr : Option (List Env)} {gd : Option (List Code)} {s : Shared} {E : Value → Shared → Prop} {Q : Value → Shared → Prop} {hb : Heap}
variable {i z : Nat} {σ : Sg} {pt : Nat → Int → Int}
theorem reached_fn (G : Gd w mean mg mb hb) (kp : ∀ b o, hb.get? b = some o → s.heap.get? b = some o) (R : Room dp un 6) (V : Vd) (vok : V.Ok) (Z : WS w V i z σ s.heap) (hhi : ∀ a ∈ V.all, hb.get? a = none) (X : Sem V.base pt σ) (unA n0 : Nat) (t3 t4 t5 t6 : Tok) (hu : s.heap.get? unA = some (lsO #[.int 3 t3, .int 4 t4, .int 5 t5, .int 6 t6] n0)) (hun : unA ∉ V.all)
    (t : Int) (tt : Tok) (h3 : 3 ≤ t) (ht : t < σ.ts.length) (hz : σ.ts.length ≤ 890)
    (hret : ∀ a h' tk' ns vs n, Keep [] s.heap h' → s.heap.get? a = none → h'.get? a = some (lsO vs n) → IntsAre vs.toList ns → ns.Pairwise (· ≤ ·) → ns.Nodup → (∀ k, k ∈ ns ↔ 3 ≤ k ∧ k < 7 ∧ Rc σ.bl t k) → Q (.ref a) { s with heap := h', toks := tk' }) :
    wpAny (model PySem.Challenge.rw_sj0101_01.row.prog w) (AR dp un fr gd) (call (.ref 785) [.ref V.woA, .ref unA, .int t tt]) Q E s := by
  have X₀ := G.X
  revert X₀
  k_fill
  intro X₀
  clear X₀
  refine Wrl.open vok Z hhi fun o1 o2 o3 k2 k3 R7 Z Fd BL ND nd nt => ?_
  refine call_JC (n := 5) _ [((Str.ofString "world"), .ref V.woA), ((Str.ofString "unknowns"), .ref unA), ((Str.ofString "top"), .int t tt)] (fun L => [(L + 1, none)]) [((Str.ofString "top"), .int t tt), ((Str.ofString "unknowns"), .ref unA), ((Str.ofString "world"), .ref V.woA)] R G kp ND nd ?_ (hvn := one_cell)
  intro c G R he en cells hc
  obtain ⟨oC, hoC, rfl⟩ := hc.one
  have gl := lists_at (en.gs _ _ (V.led_all BL hun) hu)
  have d1 := Z.d1
  have d3 := Z.d3
  have vab : (V.blA == sysModules) = false := lo_of (Nat.lt_of_le_of_lt (Nat.le_trans (Nat.succ_le_of_lt (Nat.lt_of_le_of_lt (Nat.zero_le _) vok.a1)) (Nat.le_of_lt vok.a2)) (Nat.lt_of_le_of_lt (vok.wok.leN _ (Wd.mem (W := V.W)).1).2 (Nat.lt_trans vok.a3 (Nat.lt_trans vok.a4 (Nat.lt_trans vok.a5 vok.a6)))))
  have BLs : ∀ k l, σ.bl k = some l → ∃ a items, valueAt k3 k = some (.ref a) ∧ c.g.IsList a items ∧ IntsAre items.toList l := by
    intro k l e
    have := Z.blAt k
    rw [e] at this
    obtain ⟨a, vs, n, e1, e2, e3, e4⟩ := this
    exact ⟨a, vs, e1, lists_at (en.gs _ _ (V.led_off BL e2) e3), e4⟩
  have BLn : ∀ k, σ.bl k = none → (valueAt k3 k).isSome = false := by
    intro k e
    have := Z.blAt k
    rw [e] at this
    rw [this]; rfl
  have t0 : 0 ≤ t := by lia
  have t1 : t < 1000 := by lia
  dsimp only [List.cons_append, List.nil_append, Vd.led]
  k_with "rch_MReach" => ((with_reducible refine (?_ : J _ _ _ _ (exec (.Assign [.Name _ _] (.Dict _ _ _) _) _) _)); refine J.assignC he (by rfl) ?_)
  k_with "rch_MReach" => ((with_reducible refine J.dict1 ?_ ?_); (focus assumption); intro d9 o9 lo9)
  k_with "rch_MReach" => ((with_reducible refine (?_ : KDict1 _ _ _ _ _ _ _ _)); refine ⟨_, _, _, rfl, by k_extra "upf", fun o7 hd7 => ?_⟩)
  k_with "rch_MReach" => ((with_reducible refine (?_ : KAsgC _ _ _ _ _)); refine ⟨_, _, _, by k_extra "upf", hoC, fun o8 hC8 => ?_⟩)
  k_with "rch_MReach" => ((with_reducible refine (?_ : J _ _ _ _ (callWith _ (.type _) _ _ _) _)); refine J.ty ?_)
  k_with "rch_MReach" => ((with_reducible refine (?_ : J _ _ _ _ (PySem.call (.type "range") _) _)); refine J.range3 (by decide) (PyProof.noPylong_of_log2 (by decide +kernel)) ?_; intro r9)
  repeat' (first | k_extra "rch_MReach" | k_extra "law" | k_extra "j")
  refine J.forR he R (RchI w σ t d9 (c.L + 1) o8 (.ref unA) (.ref V.woA) ((V.ptA, V.pts) :: (V.woA, o1) :: (V.wtA, o2) :: (V.blA, o3) :: R7)) ?_
  repeat' (first | k_extra "rch_MReach" | k_extra "law" | k_extra "j")
  refine ⟨_, _, _, _, _, _, _, t.toNat, rfl, .head _, small_down t0 t1, range_down t0, ⟨o7, _, [(r9, _)], List.perm_append_comm (l₁ := [(r9, _)]), ⟨rfl, rfl⟩, hd7, by rw [show t + ((0 : Nat) : Int) * (-1) = t by lia]; exact Rch.start h3 (by lia)⟩, ?_, ?_⟩
  · rintro i tv l1 m1 own hi ⟨oM, kM, R', pm, ⟨k1, k2'⟩, dM, rch⟩ off
    refine J.perm (pm.append_right own) ?_
    dsimp only [List.cons_append, List.nil_append]
    have ec : t + ((i + 1 : Nat) : Int) * (-1) + 1 = t + (i : Int) * (-1) := by lia
    have ec0 : 0 ≤ t + ((i + 1 : Nat) : Int) * (-1) := by lia
    have zM : kM.length ≤ 3000 := by have := rch.len; lia
    generalize hcur : t + (i : Int) * (-1) = cur at rch ec ⊢
    k_with "name_MReach" => (first | rfl | exact k1 | exact k2')
    k_with "rch_MReach" => ((with_reducible refine (?_ : J _ _ _ _ (eval (.Name _ _) _) _)); first | refine J.name he (by k_extra "name_MReach") ?_ | refine J.nameC _ (by rfl) (by k_extra "nth") hC8 ?_)
    k_with "rch_MReach" => ((with_reducible refine (?_ : J _ _ _ _ (compareOp .In _ (.ref d9)) _)); refine J.kin (PySem.intKind PR w) _ (by k_extra "nth") lo9 dM (intKind_is _ _ _ _) _ (by assumption) ?_)
    k_with "rch_MReach" => ((with_reducible refine (?_ : J _ _ _ _ (compareOp .In _ (.ref V.blA)) _)); refine J.kin (PySem.intKind PR w) _ (by k_extra "nth") vab d3 (intKind_is _ _ _ _) _ (by assumption) ?_)
    k_with "rch_MReach" => ((with_reducible refine (?_ : J _ _ _ _ (setItem (.ref d9) _ _) _)); refine J.kset (PySem.intKind PR w) (by k_extra "upf") (by assumption) (intKind_is _ _ _ _) (by lia) ?_; intro oS dS)
    by_cases hh : has kM cur
    · have b1 : (valueAt kM cur).isSome = true := hh
      have q3 := (rch.sub _ hh).1
      rcases hb : σ.bl cur with _ | ls
      · have b2 := BLn _ hb
        have r8 := rch.down ec ec0 (.inr hb)
        repeat' (first | k_extra "rch_MReach" | k_extra "law" | k_extra "j")
        exact ⟨.inl rfl, _, Cut.all (D := _ :: _ :: _ :: _ :: _ :: _ :: (R7 ++ R')), oM, kM, R', .refl _, ⟨k1, k2'⟩, dM, r8⟩
      · obtain ⟨la, items, v7, T7, I7⟩ := BLs _ _ hb
        have b2 : (valueAt k3 cur).isSome = true := by rw [v7]; rfl
        obtain ⟨l1, l2⟩ := X.bl_ok q3 (by lia) hb
        have r8 := rch.open ec ec0 hh hb l1 l2
        k_with "rch_MReach" => ((with_reducible refine (?_ : J _ _ _ _ (subscriptTail _ _ (Value.ref V.blA) _) _)); refine J.kitemA (PySem.intKind PR w) _ (by k_extra "nth") d3 (intKind_is _ _ _ _) v7 ?_)
        repeat' (first | k_extra "rch_MReach" | k_extra "law" | k_extra "j")
        refine J.forL he _ R (RchF w σ t (t + ((i + 1 : Nat) : Int) * (-1)) ls d9 (c.L + 1) o8 (.ref unA) (.ref V.woA) ((V.ptA, V.pts) :: (V.woA, o1) :: (V.wtA, o2) :: (V.blA, o3) :: (R7 ++ R' ++ own))) ?_
        repeat' (first | k_extra "rch_MReach" | k_extra "law" | k_extra "j")
        refine ⟨_, _, rfl, T7, ⟨oM, kM, rfl, ⟨k1, k2'⟩, dM, r8⟩, ?_, ?_⟩
        · rintro j v l2 m2 own2 hv ⟨oM2, kM2, rfl, ⟨g1, g2⟩, dM2, r2⟩ off2
          obtain ⟨a, ta, ea, rfl⟩ := ints_at I7 hv
          rw [drop_cons ea] at r2
          have r4 := r2.push (v := .bool true)
          have len5 := r2.len
          dsimp only [List.cons_append]
          k_with "name_MReach" => (first | rfl | exact g1 | exact g2)
          repeat' (first | k_extra "rch_MReach" | k_extra "law" | k_extra "j")
          exact ⟨.inl rfl, _, Cut.all (D := _ :: _ :: _ :: _ :: _ :: _ :: (R7 ++ R' ++ own)), oS, _, rfl, ⟨g1, g2⟩, dS, r4⟩
        · rintro l2 m2 ⟨oM2, kM2, rfl, ⟨g1, g2⟩, dM2, r2⟩
          rw [ints_size I7, List.drop_length] at r2
          repeat' (first | k_extra "rch_MReach" | k_extra "law" | k_extra "j")
          exact ⟨.inl rfl, _, Cut.all (D := _ :: _ :: _ :: _ :: _ :: _ :: (R7 ++ R')), oM2, kM2, R', .refl _, ⟨g1, g2⟩, dM2, r2⟩
    · have b1 : (valueAt kM cur).isSome = false := not_has hh
      have r8 := rch.down ec ec0 (.inl hh)
      repeat' (first | k_extra "rch_MReach" | k_extra "law" | k_extra "j")
      exact ⟨.inl rfl, _, Cut.all (D := _ :: _ :: _ :: _ :: _ :: _ :: (R7 ++ R')), oM, kM, R', .refl _, ⟨k1, k2'⟩, dM, r8⟩
  · rintro l1 m1 ⟨oM, kM, R', pm, ⟨k1, k2'⟩, dM, rch⟩
    refine J.perm pm ?_
    dsimp only [List.cons_append, List.nil_append]
    repeat' (first | k_extra "rch_MReach" | k_extra "law" | k_extra "j")
    refine J.compT R (fun j ys => IntsAre ys (([3, 4, 5, 6].take j).filter fun k => (valueAt kM k).isSome)) (by with_unfolding_all rfl) ?_
    repeat' (first | k_extra "rch_MReach" | k_extra "law" | k_extra "j")
    refine ⟨rfl, _, _, rfl, .inl gl, Nat.le_of_ble_eq_true rfl, .nil, fun j v I9 oI9 C9 oC9 D9 ys9 m9 hv iv hn9 hx9 => ?_, fun ys9 D9 iv => ?_⟩
    · obtain ⟨k, tk9, rfl, ek⟩ := four_int hv
      k_with "rch_MReach" => ((with_reducible refine (?_ : J _ _ _ _ (eval (.Name _ _) (compEnvC _ _ _ _)) _)); first | refine J.nameF _ (by rfl) (by k_extra "nth") hC8 ?_ | refine J.nameN _ (by k_extra "nth") (by assumption) (by assumption) ?_)
      k_with "rch_MReach" => ((with_reducible refine (?_ : J _ _ _ _ (compareOp .In _ (.ref d9)) _)); refine J.kin (PySem.intKind PR w) _ (by k_extra "nth") lo9 dM (intKind_is _ _ _ _) _ (by assumption) ?_)
      cases b9 : (valueAt kM k).isSome with
      | true =>
        repeat' (first | k_extra "rch_MReach" | k_extra "law" | k_extra "j")
        refine ⟨rfl, ?_, [], rfl⟩
        rw [ek, List.filter_append, List.filter_cons_of_pos (p := fun k => (valueAt kM k).isSome) b9]
        exact intsAre_snoc iv k tk9
      | false =>
        repeat' (first | k_extra "rch_MReach" | k_extra "law" | k_extra "j")
        refine ⟨rfl, ?_, [], rfl⟩
        rw [ek, List.filter_append, List.filter_cons_of_neg (p := fun k => (valueAt kM k).isSome) (by rw [b9]; decide), List.filter_nil, List.append_nil]
        exact iv
    · repeat' (first | k_extra "rch_MReach" | k_extra "law" | k_extra "j")
      refine J.sorted _ (by k_extra "nth") iv (Nat.lt_of_le_of_lt (List.length_filter_le _ _) (Nat.lt_of_le_of_lt (List.length_take_le' _ _) (by decide))) ?_
      intro D8 vs8 ns8 n8 I8 p8 o8'
      repeat' (first | k_extra "rch_MReach" | k_extra "law" | k_extra "j")
      intro h9 tk9 O9 K9
      have n0 := List.pairwise_cons.mp O9.nd
      have r0 : Rch σ.bl t 0 kM [] := by rw [show t + ((t.toNat : Nat) : Int) * (-1) = 0 by lia] at rch; exact rch
      have sD : ∀ p ∈ (V.ptA, V.pts) :: (V.woA, o1) :: (V.wtA, o2) :: (V.blA, o3) :: R7, p ∈ (D9, lsO ys9.toArray ys9.length) :: (d9, oM) :: (c.L + 1, o8) :: (V.ptA, V.pts) :: (V.woA, o1) :: (V.wtA, o2) :: (V.blA, o3) :: (R7 ++ R') := fun p hp => .tail _ (.tail _ (.tail _ (List.mem_append_left (as := (V.ptA, V.pts) :: (V.woA, o1) :: (V.wtA, o2) :: (V.blA, o3) :: R7) R' hp)))
      refine hret _ _ _ _ _ _ (keep0 K9 ND O9 fun p hp => .tail _ (sD p hp)) (fresh_of en.gs O9.N (.head _) (apart_of n0.1 sD)) (O9.N _ (.head _)).1 I8 o8' (p8.nodup_iff.mpr (List.Pairwise.filter _ (show ([3, 4, 5, 6] : List Int).Nodup by decide))) fun k => (p8.mem_iff).trans ?_
      rw [List.mem_filter, ← r0.done k]
      show k ∈ [3, 4, 5, 6] ∧ _ ↔ _
      refine ⟨fun ⟨a, b⟩ => ?_, fun ⟨a, b, d⟩ => ⟨?_, d⟩⟩
      · simp only [List.mem_cons, List.not_mem_nil, or_false] at a
        exact ⟨by lia, by lia, b⟩
      · simp only [List.mem_cons, List.not_mem_nil, or_false]; lia
end
end Mine

open PySem PySem.W PySem.Calls PyProof.Rows
set_option Elab.async false
set_option linter.all false
set_option maxRecDepth 100000
set_option maxHeartbeats 40000000
namespace Mine
section
variable {prog : Program} {w : World} {K : Type} [DecidableEq K] {knd : KeyKind prog w K} {A : Around} {E : Value → Shared → Prop} {s : Shared} {h₀ : Heap} {L d : Addr} {m : Str → Option Value} {o : Obj} {kvs : List (K × Value)} {k : K} {key dflt : Value}
theorem base_dict (F : Fr h₀ L s.heap m) (e : h₀.get? d = some o) (hd : o.IsDictOf knd kvs) : s.heap.DictOf knd d kvs := Heap.dictOf_iff.mpr ⟨o, F.keep _ _ e, hd⟩
theorem base_method {name : Str} {id : String} {pl : PySem.Sem Bool} {Q : Value × List Value → Shared → Prop} (slot : Slot "dict" name id) (ty : typeOf (.builtin id) = pure (.type "method_descriptor")) (F : Fr h₀ L s.heap m) (e : h₀.get? d = some o) (hd : o.IsDictOf knd kvs) (h : Q (.builtin id, [.ref d]) s) :
    wpAny (model prog w) A (getMethod (.ref d) name pl) Q E s :=
  have hD := base_dict F e hd
  getMethod_builtin hD.typeIs PySem.F.plainAttrs_dict slot ty hD.mapOf.noDict h
theorem base_values {Q : Value → Shared → Prop} {news : List (Addr × Obj)} (F : Fr h₀ L s.heap m) (N : News h₀ L s.heap news) (e : h₀.get? d = some o) (hd : o.IsDictOf knd kvs) (lo : (d == sysModules) = false)
    (h : ∀ (D : Addr) h', Fr h₀ L h' m → News h₀ L h' ((D, { cls := .type "dict_values", data := .fields #[.ref d] }) :: news) → (∀ q ∈ news, q.1 < D) → Q (.ref D) { s with heap := h' }) :
    wpAny (model prog w) A (call (.builtin "dict.values") [.ref d]) Q E s :=
  have hD := base_dict F e hd
  call_meetsIn PySem.F.slot_dict_values hD.typeIs PySem.F.entry_dict_values (PySem.F.args_dict_values_1 _) (meets_dict_values knd d lo) ⟨⟨kvs, hD⟩, h _ _ (F.push _) (News.push F N _) fun q hq => Heap.lt_size (N q hq).1⟩
theorem base_get2 {Q : Value → Shared → Prop} (F : Fr h₀ L s.heap m) (e : h₀.get? d = some o) (hd : o.IsDictOf knd kvs) (lo : (d == sysModules) = false) (hkey : knd.is k key = true) (x : Option Value) (hl : valueAt kvs k = x) (h : Q (x.getD dflt) { s with toks := s.toks + 1 }) :
    wpAny (model prog w) A (call (.builtin "dict.get") [.ref d, key, dflt]) Q E s :=
  have hD := base_dict F e hd
  call_meetsIn PySem.F.slot_dict_get hD.typeIs PySem.F.entry_dict_get (PySem.F.args_dict_get_3 _ _ _) (meets_dict_get_default knd d hkey lo dflt) ⟨_, hD.mapOf, by rw [hl]; exact h⟩
theorem base_item {v : Value} {value slice : PySem.Expr} {Q : Value → Shared → Prop} (F : Fr h₀ L s.heap m) (e : h₀.get? d = some o) (hd : o.IsDictOf knd kvs) (hkey : knd.is k key = true) (hl : valueAt kvs k = some v) (h : Q v { s with toks := s.toks + 1 })
    (hs : autoParam (subscripted slice false (.ref d) key = operate [.ref d, key] (getItem (.ref d) key)) Mine.aT8._auto_1) :
    wpAny (model prog w) A (subscriptTail value slice (.ref d) key) Q E s :=
  have hD := base_dict F e hd
  tail_any hD.typeIs slot_dict_getitem.lookup (wpAny_getItem_of hkey hD.mapOf hl h) hs
theorem base_list {vw : Addr} {Q : Value → Shared → Prop} {news : List (Addr × Obj)} (hh : A.handled = none) (F : Fr h₀ L s.heap m) (N : News h₀ L s.heap news) (e : h₀.get? d = some o) (hd : o.IsDictOf knd kvs) (hv : (vw, ({ cls := .type "dict_values", data := .fields #[.ref d] } : Obj)) ∈ news) (hn : kvs.length ≤ 1500)
    (h : ∀ (D : Addr) c h' tk, Fr h₀ L h' m → News h₀ L h' ((D, PySem.W.listOf (kvs.map (·.2)).toArray c) :: news) → (∀ q ∈ news, q.1 < D) → Q (.ref D) { s with heap := h', toks := tk }) :
    wpAny (model prog w) A (call (.type "list") [.ref vw]) Q E s := by
  obtain ⟨ep, hat⟩ := (base_dict F e hd).dictAt
  refine kdl_N (kdl_values (knd := knd) (kvs := kvs) (ep := ep)) hh F N ⟨⟨_, (N _ hv).1, rfl, rfl⟩, hat⟩ (by rw [sizeLine_eq]; lia) fun B c h' tk vs F' N' l1 hl hv => ?_
  rw [kdl_vals_eq vs hl hv] at N'
  exact h B c h' tk F' N' l1
end
noncomputable def Vd.pA (V : Vd) : Nat → Nat
  | 0 => V.p0
  | 1 => V.p1
  | 2 => V.p2
  | 3 => V.p3
  | 4 => V.p4
  | _ => V.p5
noncomputable def PtOk (w : World) (h : Heap) (a : Nat) (f : Int → Int) : Prop :=
  ∃ o kvs, h.get? a = some o ∧ o.IsDictOf (PySem.intKind PR w) kvs ∧ (a == sysModules) = false ∧ ∀ u, 3 ≤ u → u < 7 → ∀ t0, ∃ t, (valueAt kvs u).getD (.int 0 t0) = .int (f u) t
noncomputable def PtsOk (w : World) (V : Vd) (pt : Nat → Int → Int) (h : Heap) : Prop := ∀ i, i < 6 → PtOk w h (V.pA i) (pt i)
noncomputable def sumL (F : Int → Int) (l : List Int) : Int := (l.map F).sum
theorem sumL_four {F : Int → Int} : ∀ {l : List Int}, l.Nodup → (∀ k ∈ l, 3 ≤ k ∧ k < 7) →
    sumL F l = (if 3 ∈ l then F 3 else 0) + (if 4 ∈ l then F 4 else 0) + (if 5 ∈ l then F 5 else 0) + (if 6 ∈ l then F 6 else 0)
  | [], _, _ => by simp [sumL]
  | a :: l, hn, hk => by
    have ih := sumL_four (F := F) (l := l) (List.nodup_cons.mp hn).2 fun k h => hk k (.tail _ h)
    have ha := (List.nodup_cons.mp hn).1
    have hb := hk a (.head _)
    have e : sumL F (a :: l) = F a + sumL F l := by simp [sumL]
    rw [e, ih]
    have : a = 3 ∨ a = 4 ∨ a = 5 ∨ a = 6 := by lia
    rcases this with rfl | rfl | rfl | rfl <;> simp only [List.mem_cons, ha, if_false] <;> simp <;> lia
theorem RatAt.up {g h : Heap} {a : Addr} {x : Int × Int} (r : RatAt g a x) (k : ∀ b o, g.get? b = some o → h.get? b = some o) : RatAt h a x := by
  obtain ⟨t1, t2, e⟩ := r
  exact ⟨t1, t2, e.keeps k⟩
theorem nodup_of {w : World} {o : Obj} {kvs : List (Int × Value)} (d : o.IsDictOf (PySem.intKind PR w) kvs) : (kvs.map (·.1)).Nodup := by
  obtain ⟨es, ep, _, _, _, _, n⟩ := d
  exact n
theorem valueAt_of_mem {kvs : List (Int × Value)} (n : (kvs.map (·.1)).Nodup) {k : Int} {v : Value} (h : (k, v) ∈ kvs) : valueAt kvs k = some v := by
  unfold valueAt
  induction kvs with
  | nil => exact nomatch h
  | cons q r ih =>
    rw [List.map_cons, List.nodup_cons] at n
    rcases List.mem_cons.mp h with rfl | h
    · simp
    · have : q.1 ≠ k := fun e => n.1 (by rw [e]; exact List.mem_map_of_mem h)
      rw [List.find?_cons]
      simp only [this, decide_false]
      exact ih n.2 h
theorem share_of {w : World} {pt : Nat → Int → Int} {σ : Sg} {t : Int} {h : Heap} {o : Obj} {kvs : List (Int × Value)} {p : RF} {c : Int × Int} (d : o.IsDictOf (PySem.intKind PR w) kvs) (r : RatsIn h kvs p) (T : Told pt σ t p c) {k : Int} {v : Value} (hm : (k, v) ∈ kvs) :
    ∃ a x, v = .ref a ∧ p k = some x ∧ RatAt h a x ∧ Low x ∧ valueAt kvs k = some (.ref a) := by
  have e := valueAt_of_mem (nodup_of d) hm
  have q := r k
  split at q
  · rw [q] at e; cases e
  · rename_i x ex
    obtain ⟨a, h1, h2⟩ := q
    rw [h1] at e; cases e
    exact ⟨a, x, rfl, ex, h2, (T.key k x ex).2.2, h1⟩
theorem item_of {w : World} {pt : Nat → Int → Int} {σ : Sg} {t : Int} {h : Heap} {o : Obj} {kvs : List (Int × Value)} {p : RF} {c : Int × Int} {cA : Addr} (d : o.IsDictOf (PySem.intKind PR w) kvs) (r : RatsIn h kvs p) (rc : RatAt h cA c) (T : Told pt σ t p c) {its : Array Value} (ei : its.toList = kvs.map (·.2) ++ [.ref cA]) {i : Nat} {v : Value} (e : its[i]? = some v) :
    ∃ a x, v = .ref a ∧ RatAt h a x ∧ Low x := by
  have hm : v ∈ kvs.map (·.2) ++ [.ref cA] := by
    rw [← ei]
    exact Array.mem_toList_iff.mpr (Array.mem_of_getElem? e)
  rcases List.mem_append.mp hm with hm | hm
  · obtain ⟨⟨k, v'⟩, hk, rfl⟩ := List.mem_map.mp hm
    obtain ⟨a, x, h1, _, h3, h4, _⟩ := share_of d r T hk
    exact ⟨a, x, h1, h3, h4⟩
  · rw [List.mem_singleton.mp hm]
    exact ⟨cA, c, rfl, rc, T.con⟩
noncomputable abbrev TF (p : RF) (pt : Nat → Int → Int) (i : Nat) : Int → Int := fun k => scO (p k) * pt i k
noncomputable def tacc (p : RF) (c : Int × Int) (pt : Nat → Int → Int) (i : Nat) (ks : List Int) (j : Nat) : Int := sc c + sumL (TF p pt i) (ks.take j)
theorem tacc_succ {p : RF} {c : Int × Int} {pt : Nat → Int → Int} {i : Nat} {ks : List Int} {j : Nat} {k : Int} (e : ks[j]? = some k) : tacc p c pt i ks (j + 1) = tacc p c pt i ks j + TF p pt i k := by
  unfold tacc sumL
  have : ks.take (j + 1) = ks.take j ++ [k] := by rw [List.take_succ, e]; rfl
  rw [this, List.map_append, List.sum_append]
  simp; lia
theorem tacc_step {p : RF} {c : Int × Int} {pt : Nat → Int → Int} {i : Nat} {ks : List Int} {j : Nat} {k : Int} {x : Int × Int} (e : ks[j]? = some k) (ep : p k = some x) (lx : Low x) : tacc p c pt i ks j + x.1 * (6 ^ 48 : Int).fdiv x.2 * pt i k = tacc p c pt i ks (j + 1) := by
  rw [tacc_succ e]
  show _ = _ + scO (p k) * pt i k
  rw [ep, Int.fdiv_eq_ediv_of_nonneg _ (by have := lx.pos; lia)]
  rfl
theorem tacc_zero {p : RF} {c : Int × Int} {pt : Nat → Int → Int} {i : Nat} {ks : List Int} : tacc p c pt i ks 0 = sc c := by
  unfold tacc sumL; simp
theorem tacc_end {w : World} {pt : Nat → Int → Int} {σ : Sg} {t : Int} {h : Heap} {o : Obj} {kvs : List (Int × Value)} {p : RF} {c : Int × Int} (d : o.IsDictOf (PySem.intKind PR w) kvs) (r : RatsIn h kvs p) (T : Told pt σ t p c) {i : Nat} : tacc p c pt i (kvs.map (·.1)) kvs.length = σ.val t i := by
  unfold tacc
  rw [show kvs.length = (kvs.map (·.1)).length by simp, List.take_length]
  have key : ∀ k ∈ kvs.map (·.1), 3 ≤ k ∧ k < 7 := by
    intro k hk
    obtain ⟨⟨k', v⟩, hm, rfl⟩ := List.mem_map.mp hk
    obtain ⟨a, x, _, ex, _⟩ := share_of d r T hm
    exact ⟨(T.key _ x ex).1, (T.key _ x ex).2.1⟩
  rw [sumL_four (nodup_of d) key, ← T.val i]
  have out : ∀ k, k ∉ kvs.map (·.1) → p k = none := by
    intro k hk
    have q := r k
    split at q
    · assumption
    · obtain ⟨a, h1, _⟩ := q
      obtain ⟨v, hv⟩ := valueAt_mem h1
      exact absurd (List.mem_map.mpr ⟨(k, v), hv, rfl⟩) hk
  have one : ∀ k, (if k ∈ kvs.map (·.1) then TF p pt i k else 0) = scO (p k) * pt i k := by
    intro k
    split
    · rfl
    · rename_i q
      rw [out k q]
      show (0 : Int) = 0 * _
      simp
  rw [one 3, one 4, one 5, one 6]
  lia
theorem fdiv_sc {x : Int × Int} (h : Low x) : x.1 * (6 ^ 48 : Int).fdiv x.2 = sc x := by
  unfold sc
  rw [Int.fdiv_eq_ediv_of_nonneg _ (by have := h.pos; lia)]
theorem sc_ok {x : Int × Int} (h : Low x) {B : Nat} (hb : (sc x).natAbs ≤ 6 ^ 48 * B) (hB : B ≤ 7 ^ 40) : x.2 ≠ 0 ∧ x.2.natAbs.log2 < 9000 ∧ IntMulOk x.1 ((6 ^ 48 : Int).fdiv x.2) ∧ ∀ y : Int, -1000 ≤ y → y ≤ 1000 → IntMulOk (x.1 * (6 ^ 48 : Int).fdiv x.2) y := by
  have f := h.fits (B := B) (le5 hb) hB
  have hp := h.pos
  have e1 : ((6 ^ 48 : Int).fdiv x.2).natAbs < 2 ^ 2000 := by
    rw [Int.fdiv_eq_ediv_of_nonneg _ (by lia)]
    refine Nat.lt_of_le_of_lt (m := 6 ^ 48) ?_ (by decide +kernel)
    have h1 : (0 : Int) ≤ 6 ^ 48 / x.2 := Int.ediv_nonneg (by decide) (by lia)
    have h2 : (6 : Int) ^ 48 / x.2 ≤ 6 ^ 48 := Int.ediv_le_self _ (by decide)
    have h3 : ((6 : Int) ^ 48).natAbs = 6 ^ 48 := by decide
    lia
  refine ⟨f.n0, log2_lt_of (Nat.lt_of_lt_of_le f.l2 (Nat.pow_le_pow_right (by decide) (by decide))) (by decide), mulOk (k := 2000) f.l1 e1 (by decide) (by decide), fun y h1 h2 => ?_⟩
  rw [fdiv_sc h]
  refine mulOk (k := 2000) (Nat.lt_of_le_of_lt (Nat.le_trans hb (Nat.mul_le_mul_left _ hB)) (by decide +kernel)) (Nat.lt_of_le_of_lt (show y.natAbs ≤ 1000 by lia) (by decide +kernel)) (by decide) (by decide)
theorem pts_item (V : Vd) {i : Nat} (h : i < 6) : (#[.ref V.p0, .ref V.p1, .ref V.p2, .ref V.p3, .ref V.p4, .ref V.p5] : Array Value)[((i : Int)).toNat]? = some (.ref (V.pA i)) := by
  have : i = 0 ∨ i = 1 ∨ i = 2 ∨ i = 3 ∨ i = 4 ∨ i = 5 := by lia
  rcases this with rfl | rfl | rfl | rfl | rfl | rfl <;> rfl
section
variable {w : World} {c : Cx} {l : Led} {m : Mp} {P : Value → Led → Mp → Prop} {PF : Flow → Led → Mp → Prop} {env : Env} {N : Nat} {d : Addr} {o : Obj} {kvs : List (Int × Value)}
theorem J.bmeth {name : Str} {id : String} {pl : PySem.Sem Bool} {PM : Value × List Value → Led → Mp → Prop} (slot : Slot "dict" name id) (ty : typeOf (.builtin id) = pure (.type "method_descriptor")) (e : c.g.get? d = some o) (hd : o.IsDictOf (PySem.intKind PR w) kvs) (h : PM (.builtin id, [.ref d]) l m) : J w c l m (getMethod (.ref d) name pl) PM := fun _ _ O =>
  base_method slot ty O.F e hd ⟨_, _, _, _, rfl, O, h⟩
theorem J.bvals (e : c.g.get? d = some o) (hd : o.IsDictOf (PySem.intKind PR w) kvs) (lo : (d == sysModules) = false) (k : ∀ D, P (.ref D) ((D, { cls := .type "dict_values", data := .fields #[.ref d] }) :: l) m) : J w c l m (PySem.call (.builtin "dict.values") [.ref d]) P := fun h tk O =>
  base_values O.F O.N e hd lo fun D h' F' N' lt => ⟨_, _, _, _, rfl, ⟨F', N', O.nd.cons lt⟩, k D⟩
theorem J.blist {vw : Addr} (R : Rm c N) (e : c.g.get? d = some o) (hd : o.IsDictOf (PySem.intKind PR w) kvs) (i : Nat) (h1 : nth l i = some (vw, { cls := .type "dict_values", data := .fields #[.ref d] })) (hn : kvs.length ≤ 1500) (k : ∀ D n, P (.ref D) ((D, lsO (kvs.map (·.2)).toArray n) :: l) m) : J w c l m (PySem.call (.type "list") [.ref vw]) P := fun h tk O => by
  obtain ⟨_, _, _, _, eA, _⟩ := R
  exact base_list (by rw [eA]) O.F O.N e hd (nth_mem h1) hn fun D n h' tk' F' N' lt => ⟨_, _, _, _, rfl, ⟨F', N', O.nd.cons lt⟩, k D n⟩
theorem J.addL {a b : Addr} {xs ys : List Value} {n1 n2 : Nat} (i j : Nat) (h1 : nth l i = some (a, lsO xs.toArray n1)) (h2 : nth l j = some (b, lsO ys.toArray n2)) (hz : xs.length + ys.length ≤ 16384) (k : ∀ D n, P (.ref D) ((D, lsO (xs ++ ys).toArray n) :: l) m) : J w c l m (binaryOp .Add (.ref a) (.ref b)) P := fun h tk O =>
  PySem.W.kmk_add_lit (zs := xs ++ ys) O.F O.N (O.N.isList (nth_mem h1)) (O.N.isList (nth_mem h2)) (by simp) (fun D h' F' N' lt => ⟨_, _, _, _, rfl, ⟨F', N', O.nd.cons lt⟩, k D 0⟩) (by rw [sizeLine_eq]; simp; lia)
theorem J.neNil {a b : Addr} {n1 n2 : Nat} (R : Rm c N) (i j : Nat) (h1 : nth l i = some (a, lsO #[] n1)) (h2 : nth l j = some (b, lsO #[] n2)) (k : P (.bool false) l m) (hN : autoParam (4 ≤ N) Mine.aT2._auto_1) : J w c l m (compareOp .NotEq (.ref a) (.ref b)) P := fun h tk O =>
  ke_ne_ints (xs := []) (ys := []) (O.N.isList (nth_mem h1)) (O.N.isList (nth_mem h2)) .nil .nil (by have := R.units; lia) ⟨_, _, _, _, rfl, O, k⟩
theorem J.ptmeth {a : Addr} {f : Int → Int} {pl : PySem.Sem Bool} {PM : Value × List Value → Led → Mp → Prop} (p : PtOk w c.g a f) (h : PM (.builtin "dict.get", [.ref a]) l m) : J w c l m (getMethod (.ref a) (Str.ofString "get") pl) PM := by
  obtain ⟨o, kvs, e, hd, _, _⟩ := p
  exact J.bmeth PySem.F.slot_dict_get PySem.F.type_dict_get e hd h
theorem J.ptget {a : Addr} {f : Int → Int} {u : Int} {tk t0 : Tok} (p : PtOk w c.g a f) (h3 : 3 ≤ u) (h7 : u < 7) (h : ∀ t, P (.int (f u) t) l m) : J w c l m (PySem.call (.builtin "dict.get") [.ref a, .int u tk, .int 0 t0]) P := fun _ _ O => by
  obtain ⟨o, kvs, e, hd, lo, hv⟩ := p
  obtain ⟨t, ht⟩ := hv u h3 h7 t0
  exact base_get2 (knd := PySem.intKind PR w) O.F e hd lo (intKind_is _ _ _ _) _ rfl (by rw [ht]; exact ⟨_, _, _, _, rfl, O, h t⟩)
theorem J.bitem {k : Int} {t : Tok} {v : Value} {value slice : Expr} (e : c.g.get? d = some o) (hd : o.IsDictOf (PySem.intKind PR w) kvs) (hl : valueAt kvs k = some v) (h : P v l m)
    (hs : autoParam (subscripted slice false (.ref d) (.int k t) = operate [.ref d, .int k t] (getItem (.ref d) (.int k t))) Mine.aT4._auto_1) : J w c l m (subscriptTail value slice (.ref d) (.int k t)) P := fun _ _ O =>
  base_item (knd := PySem.intKind PR w) O.F e hd (intKind_is _ _ _ _) hl ⟨_, _, _, _, rfl, O, h⟩ hs
inductive KForK (w : World) (c : Cx) (PF : Flow → Led → Mp → Prop) (env : Env) (x : Str) (body : List Stmt) (Inv : Nat → Led → Mp → Prop) (xv : Value) (l : Led) (m : Mp) : Prop
  | mk (d : Addr) (o : Obj) (kvs : List (Int × Value)) (e : xv = .ref d) (eg : c.g.get? d = some o) (hd : o.IsDictOf (PySem.intKind PR w) kvs) (lo : (d == sysModules) = false) (h0 : Inv 0 l m)
      (turn : ∀ i k v t l1 m1 own, kvs[i]? = some (k, v) → Inv i l1 m1 → OwnOff own (l1.map (·.1)) → J w c (l1 ++ own) ((x, .int k t) :: m1) (execs body env) (TurnE own (Inv (i + 1)))) (done : ∀ l1 m1, Inv kvs.length l1 m1 → PF .next l1 m1) : KForK w c PF env x body Inv xv l m
theorem J.forK {x : Str} {px pos : Pos} {iter : Expr} {body : List Stmt} (he : EnvX c env) (R : Rm c N) (Inv : Nat → Led → Mp → Prop) (k : J w c l m (eval iter env) (KForK w c PF env x body Inv))
    (hx : autoParam (env.kindOf x = some .local) Mine.aT3._auto_1) (hs : autoParam (∀ x, foldedSetIterable iter env x = pure x) Mine.aT9._auto_1) : J w c l m (exec (.For (.Name x px) iter body [] pos) env) PF := fun h tk O => by
  obtain ⟨cn, cs, a, ccd, cl, rfl, hk⟩ := he
  obtain ⟨dp, un, fr, gd, eA, _⟩ := R
  refine For_invV c.g hx (by show (cs.kind == .class || (cs.kind == .module && _)) = false; rw [hk]; rfl) (k.run O ?_) hs (by passes_own)
  rintro xv l m h tk O ⟨d, o, kvs, rfl, e, hd, lo, h0, turn, done⟩
  exact keysJ (knd := PySem.intKind PR w) (by rw [eA]) lo (Heap.dictOf_iff.mpr ⟨o, e, hd⟩) O.F O.N (fun i mf l1 => ∃ m1, mf = lk m1 ∧ Nd l1 ∧ Inv i l1 m1) ⟨m, rfl, O.nd, h0⟩
    (fun i v m₁ news₁ h tk own _ ⟨k, x, hv, hk⟩ ⟨m1, e, nd, inv⟩ off F N => by
      obtain ⟨t, rfl⟩ := Value.isInt_shape hk
      subst e
      exact turn_of nd off F N fun own off => turn i k x t news₁ m1 own hv inv off)
    fun m₁ news₁ h tk ⟨m1, e, nd, inv⟩ F N => by subst e; exact ⟨_, _, _, _, rfl, ⟨F, N, nd⟩, done _ _ inv⟩
end
structure TolM (wo tv sh co : Value) (m : Mp) : Prop where
  l1 : m.lookup (Str.ofString "world") = some wo
  l2 : m.lookup (Str.ofString "t") = some tv
  l3 : m.lookup (Str.ofString "shares") = some sh
  l4 : m.lookup (Str.ofString "constant") = some co
section
variable {w : World} {mean : ExcName → Option Value} {mg mb : Str → Option Value} {dp un : Nat} {fr : Option (List Env)} {gd : Option (List Code)} {s : Shared} {E : Value → Shared → Prop} {Q : Value → Shared → Prop} {hb : Heap}
variable {i z : Nat} {σ : Sg} {pt : Nat → Int → Int}
theorem J.ledE {w : World} {c : Cx} {l l' own : Led} {m : Mp} {α : Type} {t : PySem.Sem α} {P : α → Led → Mp → Prop} (e : l = l') (k : J w c (l' ++ own) m t P) : J w c (l ++ own) m t P := e ▸ k
theorem share_k {w : World} {pt : Nat → Int → Int} {σ : Sg} {t : Int} {h : Heap} {o : Obj} {kvs : List (Int × Value)} {p : RF} {c : Int × Int} {G : Prop} (d : o.IsDictOf (PySem.intKind PR w) kvs) (r : RatsIn h kvs p) (T : Told pt σ t p c) {k : Int} {v : Value} (hm : (k, v) ∈ kvs)
    (f : ∀ a x t1 t2, p k = some x → IsTup h a #[.int x.1 t1, .int x.2 t2] → Low x → valueAt kvs k = some (.ref a) → G) : G := by
  obtain ⟨a, x, _, e, ⟨t1, t2, q⟩, lx, va⟩ := share_of d r T hm
  exact f a x t1 t2 e q lx va
theorem told_fn (G : Gd w mean mg mb hb) (kp : ∀ b o, hb.get? b = some o → s.heap.get? b = some o) (R : Room dp un 12) (V : Vd) (vok : V.Ok) (Z : WS w V i z σ s.heap) (hhi : ∀ a ∈ V.all, hb.get? a = none) (X : Sem V.base pt σ) (P : PtsOk w V pt s.heap) (hpp : ∀ i, V.pA i ∉ V.all) {p : RF} {c : Int × Int} (t : Int) (tt : Tok) (ta pA cA : Addr) (oP : Obj) (kP : List (Int × Value))
    (hta : s.heap.get? ta = some (tupO [.ref pA, .ref cA])) (hpA : s.heap.get? pA = some oP) (hpn : pA ∉ V.all) (dP : oP.IsDictOf (PySem.intKind PR w) kP) (rP : RatsIn s.heap kP p) (rc : RatAt s.heap cA c) (lo : (pA == sysModules) = false) (hlen : kP.length ≤ 1500) (TT : Told pt σ t p c)
    (h3 : 3 ≤ t) (ht : t < σ.ts.length) (hw : σ.wt t = some (σ.val t)) (hm : σ.ms t ≤ 7 ^ 40)
    (hret : ∀ h' tk', Keep [] s.heap h' → Q (.bool true) { s with heap := h', toks := tk' }) :
    wpAny (model PySem.Challenge.rw_sj0101_01.row.prog w) (AR dp un fr gd) (call (.ref 797) [.ref V.woA, .ref ta, .int t tt]) Q E s := by
  have X₀ := G.X
  revert X₀
  k_fill
  intro X₀
  clear X₀
  refine Wrl.open vok Z hhi fun o1 o2 o3 k2 k3 R7 Z Fd BL ND nd nt => ?_
  refine call_J (n := 11) _ [((Str.ofString "world"), .ref V.woA), ((Str.ofString "told"), .ref ta), ((Str.ofString "t"), .int t tt)] R G kp ND nd ?_
  intro c1 G R he en
  have tk0 := en.tup ND nt
  have d1 := Z.d1
  have d2 := Z.d2
  have hta := tk0 _ _ _ _ hta rfl rfl
  have hpA := en.gs _ _ (V.led_all BL hpn) hpA
  have tupk : ∀ a x, RatAt s.heap a x → RatAt c1.g a x := fun a x ⟨t1, t2, o, e, h1, n, h2⟩ => ⟨t1, t2, o, tk0 _ _ _ _ e h1 h2, h1, n, h2⟩
  have rcg := tupk _ _ rc
  have rPg : RatsIn c1.g kP p := by
    intro k
    have := rP k
    split
    · rename_i e; rw [e] at this; exact this
    · rename_i x e; rw [e] at this
      obtain ⟨a, h1, h2⟩ := this
      exact ⟨a, h1, tupk _ _ h2⟩
  have Pg : PtsOk w V pt c1.g := by
    intro i hi
    obtain ⟨o, kvs, e, r⟩ := P i hi
    exact ⟨o, kvs, en.gs _ _ (V.led_all BL (hpp i)) e, r⟩
  have ck := sc_ok TT.con TT.cb hm
  have ck1 := ck.1
  have ck2 := ck.2.1
  have ck3 := ck.2.2.1
  clear ck
  refine Exists.elim rcg fun ct1 q => Exists.elim q fun ct2 hcA => ?_
  clear q
  have hwt := Z.wtAt t
  rw [hw] at hwt
  refine Exists.elim hwt fun wa q => Exists.elim q fun ws q => Exists.elim q fun wn q => ?_
  have wv := q.1
  have wg := lists_at (en.gs _ _ (V.led_off BL q.2.1) q.2.2.1)
  have w6 := q.2.2.2
  clear q
  dsimp only [List.reverse, List.reverseAux, Vd.led]
  k_with "name_MTold" => (first | rfl)
  k_with "tol_MTold" => ((with_reducible refine (?_ : J _ _ _ _ (eval (.Name _ _) _) _)); refine J.name he (by k_extra "name_MTold") ?_)
  k_with "tol_MTold" => ((with_reducible refine (?_ : J _ _ _ _ (exec (.Assign [.Tuple _ _ _] _ _) _) _)); refine J.tupN he R [((Str.ofString "shares"), _), ((Str.ofString "constant"), _)] ?_)
  k_with "tol_MTold" => ((with_reducible refine (?_ : KTupN _ _ _ _ _ _)); refine ⟨_, [_, _], rfl, fun h O => ⟨_, O.F.keep _ _ hta, rfl, _, rfl⟩, rfl, ?_⟩; dsimp only [binds, List.map])
  k_with "tol_MTold" => ((with_reducible refine (?_ : J _ _ _ _ (getMethod (.ref pA) _ _) _)); refine J.bmeth PySem.F.slot_dict_values PySem.F.type_dict_values hpA dP ?_)
  k_with "tol_MTold" => ((with_reducible refine (?_ : J _ _ _ _ (PySem.call (.builtin "dict.values") _) _)); refine J.bvals hpA dP lo ?_; intro d_l)
  k_with "tol_MTold" => ((with_reducible refine (?_ : J _ _ _ _ (callWith _ (.type _) _ _ _) _)); refine J.ty ?_)
  k_with "tol_MTold" => ((with_reducible refine (?_ : J _ _ _ _ (PySem.call (.type "list") _) _)); refine J.blist R hpA dP _ (by k_extra "nth") hlen ?_; intro d_l n_l)
  k_with "tol_MTold" => ((with_reducible refine (?_ : J _ _ _ _ (binaryOp .Add (.ref _) (.ref _)) _)); refine J.addL _ _ (by k_extra "nth") (by k_extra "nth") (by simp; lia) ?_; intro d_l n_l)
  repeat' (first | k_extra "tol_MTold" | k_extra "law" | k_extra "j")
  refine J.compT R (fun _ ys => ys = []) (by with_unfolding_all rfl) ?_
  repeat' (first | k_extra "tol_MTold" | k_extra "law" | k_extra "j")
  refine ⟨rfl, _, _, rfl, .inr ⟨_, .head _, rfl, _, rfl⟩, by simp; lia, rfl, fun j v I9 oI9 C9 oC9 D9 ys9 m9 hv iv hn9 hx9 => ?_, fun ys9 D9 iv => ?_⟩
  · subst iv
    refine Exists.elim (item_of dP rPg rcg TT rfl hv) fun a5 q => Exists.elim q fun x5 q => ?_
    have e5 := q.1
    have ra5 := q.2.1
    have lx5 := q.2.2
    clear q hv
    subst e5
    k_with "tol_MTold" => ((with_reducible refine (?_ : J _ _ _ _ (eval (.Name _ _) (compEnvC _ _ _ _)) _)); first | refine J.nameN _ (by k_extra "nth") (by assumption) (by assumption) ?_ | refine J.nameKe (by assumption) ?_)
    k_with "tol_MTold" => ((with_reducible refine (?_ : J _ _ _ _ (PySem.call (.ref 792) _) _)); refine J.short (by assumption) R (fun h m O => ra5.up O.F.keep) lx5 ?_)
    repeat' (first | k_extra "tol_MTold" | k_extra "law" | k_extra "j")
    exact ⟨rfl, rfl, [], rfl⟩
  · subst iv
    k_with "tol_MTold" => ((with_reducible refine (?_ : J _ _ _ _ (compareOp .NotEq (.ref _) (.ref _)) _)); refine J.neNil R _ _ (by k_extra "nth") (by k_extra "nth") ?_)
    k_with "tol_MTold" => ((with_reducible refine (?_ : J _ _ _ _ (PySem.call (.type "range") _) _)); refine J.range ?_; intro d_l t1_l t2_l)
    k_with "tol_MTold" => ((with_reducible refine (?_ : J _ _ _ _ (PySem.call (.builtin "len") _) _)); refine J.len (k := 6) _ (by k_extra "nth") rfl (by decide) ?_; intro t_l)
    repeat' (first | k_extra "tol_MTold" | k_extra "law" | k_extra "j")
    refine J.forR he R (fun _ l1 m1 => (∃ R', l1.Perm ((V.ptA, V.pts) :: (V.woA, o1) :: (V.wtA, o2) :: (V.blA, o3) :: R7 ++ R')) ∧ TolM (.ref V.woA) (.int t tt) (.ref pA) (.ref cA) m1) ?_
    repeat' (first | k_extra "tol_MTold" | k_extra "law" | k_extra "j")
    refine ⟨_, _, _, _, _, _, _, 6, rfl, .head _, by decide, by decide, ⟨⟨[_, _, _, _, _, _, _], List.perm_append_comm (l₁ := [_, _, _, _, _, _, _])⟩, ⟨rfl, rfl, rfl, rfl⟩⟩, ?_, ?_⟩
    · intro i7 t7 l1 m1 own hi7 q off
      refine Exists.elim q.1 fun R' pm => ?_
      have k1 := q.2.l1
      have k2' := q.2.l2
      have k3' := q.2.l3
      have k4 := q.2.l4
      clear q
      rw [show (0 : Int) + (i7 : Int) * 1 = i7 by lia]
      refine J.perm (pm.append_right own) ?_
      dsimp only [List.cons_append, List.nil_append]
      have Pi7 := Pg i7 hi7
      have hk7 := pts_item V hi7
      have i70 : (0 : Int) ≤ (i7 : Int) := Int.natCast_nonneg i7
      have i71 : (i7 : Int) < 1000 := by lia
      k_with "name_MTold" => (first | rfl | exact k1 | exact k2' | exact k3' | exact k4)
      k_with "tol_MTold" => ((with_reducible refine (?_ : J _ _ _ _ (subscriptTail _ _ (.ref cA) (.int _ _)) _)); refine J.itemTT (vs := [_, _]) hcA (by decide) (by decide) rfl rfl ?_)
      k_with "tol_MTold" => ((with_reducible refine J.mulInt ?_ ?_); (focus assumption); intro t_l)
      repeat' (first | k_extra "tol_MTold" | k_extra "law" | k_extra "j")
      refine J.forK he R (fun j l2 m2 => l2 = (V.ptA, V.pts) :: (V.woA, o1) :: (V.wtA, o2) :: (V.blA, o3) :: (R7 ++ R' ++ own) ∧ TolM (.ref V.woA) (.int t tt) (.ref pA) (.ref cA) m2 ∧ m2.lookup (Str.ofString "k") = some (.int (i7 : Int) t7) ∧ ∃ tk, m2.lookup (Str.ofString "total") = some (.int (tacc p c pt i7 (kP.map (·.1)) j) tk)) ?_
      repeat' (first | k_extra "tol_MTold" | k_extra "law" | k_extra "j")
      refine ⟨_, _, _, rfl, hpA, dP, lo, ⟨rfl, ⟨k1, k2', k3', k4⟩, rfl, _, by rw [tacc_zero, ← fdiv_sc TT.con]; rfl⟩, ?_, ?_⟩
      · intro j k5 v5 t5 l2 m2 own2 hv q off2
        refine J.ledE q.1 ?_
        have g1 := q.2.1.l1
        have g2 := q.2.1.l2
        have g3 := q.2.1.l3
        have g4 := q.2.1.l4
        have g5 := q.2.2.1
        refine Exists.elim q.2.2.2 fun tk6 g6 => ?_
        clear q
        refine share_k dP rPg TT (List.mem_of_getElem? hv) fun a5 y5 r1 r2 ep5 ra5 lx5 va5 => ?_
        have b31 := (TT.key k5 y5 ep5).1
        have b37 := (TT.key k5 y5 ep5).2.1
        have q := sc_ok lx5 (TT.kb k5 y5 ep5) hm
        have q1 := q.1
        have q2 := q.2.1
        have q3 := q.2.2.1
        have q5 := q.2.2.2 (pt i7 k5) (X.ptb i7 k5).1 (X.ptb i7 k5).2
        clear q
        have ek5 : (kP.map (·.1))[j]? = some k5 := by rw [List.getElem?_map, hv]; rfl
        have es5 := tacc_step (c := c) (pt := pt) (i := i7) ek5 ep5 lx5
        dsimp only [List.cons_append]
        k_with "name_MTold" => (first | rfl | exact g1 | exact g2 | exact g3 | exact g4 | exact g5 | exact g6)
        k_with "tol_MTold" => ((with_reducible refine (?_ : J _ _ _ _ (subscriptTail _ _ (.ref pA) (.int _ _)) _)); refine J.bitem hpA dP va5 ?_)
        k_with "tol_MTold" => ((with_reducible refine (?_ : J _ _ _ _ (subscriptTail _ _ (.ref a5) (.int _ _)) _)); refine J.itemTT (vs := [_, _]) ra5 (by decide) (by decide) rfl rfl ?_)
        k_with "tol_MTold" => ((with_reducible refine (?_ : J _ _ _ _ (subscriptTail _ _ (.ref V.ptA) (.int _ _)) _)); refine J.item _ (by k_extra "nth") i70 i71 hk7 ?_)
        k_with "tol_MTold" => ((with_reducible refine (?_ : J _ _ _ _ (getMethod (.ref (V.pA i7)) _ _) _)); refine J.ptmeth Pi7 ?_)
        k_with "tol_MTold" => ((with_reducible refine (?_ : J _ _ _ _ (PySem.call (.builtin "dict.get") _) _)); refine J.ptget Pi7 b31 b37 ?_; intro t_l)
        repeat' (first | k_extra "tol_MTold" | k_extra "law" | k_extra "j")
        exact ⟨.inl rfl, _, Cut.all (D := _ :: _ :: _ :: _ :: (R7 ++ R' ++ own)), rfl, ⟨g1, g2, g3, g4⟩, g5, _, by rw [← es5]; rfl⟩
      · intro l2 m2 q
        have e2 := q.1
        subst e2
        have g1 := q.2.1.l1
        have g2 := q.2.1.l2
        have g3 := q.2.1.l3
        have g4 := q.2.1.l4
        have g5 := q.2.2.1
        refine Exists.elim q.2.2.2 fun tk6 g6 => ?_
        clear q
        rw [tacc_end dP rPg TT] at g6
        k_with "name_MTold" => (first | rfl | exact g1 | exact g2 | exact g3 | exact g4 | exact g5 | exact g6)
        k_with "tol_MTold" => ((with_reducible refine (?_ : J _ _ _ _ (subscriptTail _ _ (.ref V.wtA) (.int _ _)) _)); refine J.kitemA (PySem.intKind PR w) _ (by k_extra "nth") d2 (intKind_is _ _ _ _) wv ?_)
        k_with "tol_MTold" => ((with_reducible refine (?_ : J _ _ _ _ (subscriptTail _ _ (.ref wa) (.int _ _)) _)); refine J.itemS wg w6 hi7 ?_; intro t_l)
        repeat' (first | k_extra "tol_MTold" | k_extra "law" | k_extra "j")
        exact ⟨.inl rfl, _, Cut.all (D := _ :: _ :: _ :: _ :: (R7 ++ R')), ⟨R', .refl _⟩, ⟨g1, g2, g3, g4⟩⟩
    · intro l1 m1 q
      refine Exists.elim q.1 fun R' pm => ?_
      refine J.perm pm ?_
      repeat' (first | k_extra "tol_MTold" | k_extra "law" | k_extra "j")
      intro h9 tk9 O9 K9
      exact hret _ _ (keep0 (D := (V.ptA, V.pts) :: (V.woA, o1) :: (V.wtA, o2) :: (V.blA, o3) :: R7) K9 ND O9 fun p hp => List.mem_append_left R' hp)
end
end Mine

open PySem PySem.W PySem.Calls PyProof.Rows
set_option Elab.async false
set_option linter.all false
set_option maxRecDepth 100000
set_option maxHeartbeats 40000000
namespace Mine
noncomputable abbrev uT0 (b : Int) : Tm := ⟨(Str.ofString "app"), [], b, .i 0⟩
noncomputable abbrev uT1 (b : Int) : Tm := ⟨(Str.ofString "app"), [], b, .i 1⟩
noncomputable abbrev uT2 (b : Int) : Tm := ⟨(Str.ofString "app"), [3], b, .i 2⟩
noncomputable abbrev uT3 (b : Int) : Tm := ⟨Str.ofString "*", [3, 4], b, .i 0⟩
noncomputable abbrev T3 : List Tm := [tm0, tm1, tm2]
noncomputable abbrev T4 (b : Int) : List Tm := [tm0, tm1, tm2, uT0 b]
noncomputable abbrev T5 (b : Int) : List Tm := [tm0, tm1, tm2, uT0 b, uT1 b]
noncomputable abbrev T6 (b : Int) : List Tm := [tm0, tm1, tm2, uT0 b, uT1 b, uT2 b]
noncomputable abbrev T7 (b : Int) : List Tm := [tm0, tm1, tm2, uT0 b, uT1 b, uT2 b, uT3 b]
theorem Mk.new {ts ts' : List Tm} {t : Tm} {k : Nat} (h : Mk ts t ts' k) (hn : t ∉ ts) : ts' = ts ++ [t] ∧ k = ts.length := by
  rcases h with ⟨_, _, e⟩ | ⟨_, e1, e2⟩
  · exact absurd (List.mem_of_getElem? e) hn
  · exact ⟨e1, e2⟩
theorem ne_op {o o' : Str} {a a' : List Int} {s s' : Int} {d d' : Dt} (n : o ≠ o') (h : (⟨o, a, s, d⟩ : Tm) = ⟨o', a', s', d'⟩) : False := n (congrArg Tm.op h)
theorem new_x (b : Int) : (⟨(Str.ofString "app"), [], b, .i 0⟩ : Tm) ∉ T3 :=
  List.not_mem_cons_of_ne_of_not_mem (ne_op (by decide)) (List.not_mem_cons_of_ne_of_not_mem (ne_op (by decide)) (List.not_mem_cons_of_ne_of_not_mem (ne_op (by decide)) List.not_mem_nil))
theorem ne_dt {o o' : Str} {a a' : List Int} {s s' d d' : Int} (n : d ≠ d') (h : (⟨o, a, s, .i d⟩ : Tm) = ⟨o', a', s', .i d'⟩) : False := n (Dt.i.inj (congrArg Tm.data h))
theorem new_y (b : Int) : (⟨(Str.ofString "app"), [], b, .i 1⟩ : Tm) ∉ T4 b :=
  List.not_mem_cons_of_ne_of_not_mem (ne_op (by decide)) (List.not_mem_cons_of_ne_of_not_mem (ne_op (by decide)) (List.not_mem_cons_of_ne_of_not_mem (ne_op (by decide)) (List.not_mem_cons_of_ne_of_not_mem (ne_dt (by decide)) List.not_mem_nil)))
theorem new_f (b : Int) : (⟨(Str.ofString "app"), [3], b, .i 2⟩ : Tm) ∉ T5 b :=
  List.not_mem_cons_of_ne_of_not_mem (ne_op (by decide)) (List.not_mem_cons_of_ne_of_not_mem (ne_op (by decide)) (List.not_mem_cons_of_ne_of_not_mem (ne_op (by decide)) (List.not_mem_cons_of_ne_of_not_mem (ne_dt (by decide)) (List.not_mem_cons_of_ne_of_not_mem (ne_dt (by decide)) List.not_mem_nil))))
theorem new_p (b : Int) : (⟨Str.ofString "*", [3, 4], b, .i 0⟩ : Tm) ∉ T6 b :=
  List.not_mem_cons_of_ne_of_not_mem (ne_op (by decide)) (List.not_mem_cons_of_ne_of_not_mem (ne_op (by decide)) (List.not_mem_cons_of_ne_of_not_mem (ne_op (by decide)) (List.not_mem_cons_of_ne_of_not_mem (ne_op (by decide)) (List.not_mem_cons_of_ne_of_not_mem (ne_op (by decide)) (List.not_mem_cons_of_ne_of_not_mem (ne_op (by decide)) List.not_mem_nil)))))
structure SOk (W : Wd) (feA ceA : Nat) : Prop where
  wok : W.Ok
  a1 : feA < ceA
  a2 : ceA < W.dA
theorem SOk.out {W : Wd} {feA ceA : Nat} (k : SOk W feA ceA) : ∀ a ∈ W.bank ++ W.fun3, @LT.lt Nat _ ceA a := by
  intro a ha
  refine Nat.lt_of_lt_of_le k.a2 ?_
  rcases List.mem_append.mp ha with ha | ha
  · exact (k.wok.leN a ha).1
  · obtain ⟨a1, a2, a3, a4, _⟩ := k.wok.funs
    have b1 := Nat.le_of_lt (Nat.lt_trans a1 a2)
    have b2 := Nat.le_trans b1 (Nat.le_of_lt a3)
    exact (List.forall_mem_cons.mpr ⟨b1, List.forall_mem_cons.mpr ⟨b2, List.forall_mem_cons.mpr ⟨Nat.le_trans b2 (Nat.le_of_lt a4), List.forall_mem_nil _⟩⟩⟩ : ∀ a ∈ W.fun3, @LE.le Nat _ W.dA a) a ha
set_option genInjectivity false in
set_option genSizeOf false in
structure SG where
  i : Nat
  f : FS
noncomputable def Stg (w : World) (W : Wd) (feA ceA : Nat) (σ : SG) (h : Heap) : Prop := BnkF w W σ.f h ∧ Feed w feA ceA σ.i h
noncomputable abbrev stgA (W : Wd) (feA ceA : Nat) : List Addr := feA :: ceA :: (W.bank ++ W.fun3)
theorem stg_tl {w : World} {W : Wd} {feA ceA : Nat} : Tl (Stg w W feA ceA) (stgA W feA ceA) :=
  ⟨fun _ _ _ z tk k => ⟨bnkF_tl.later _ _ _ z.1 tk fun a h => k a (.tail _ (.tail _ h)), z.2.two fun b o q e => k b (by rcases q with rfl | rfl; exact .head _; exact .tail _ (.head _)) o e⟩,
    fun _ _ z => List.forall_mem_cons.mpr ⟨let ⟨_, ⟨_, e, _⟩⟩ := z.2; ⟨_, e⟩, List.forall_mem_cons.mpr ⟨let ⟨⟨_, _, _, e, _⟩, _⟩ := z.2; ⟨_, e⟩, bnkF_tl.ex _ _ z.1⟩⟩⟩
section
variable {w : World} {c : Cx} {l D X : Led} {m : Mp} {P : Value → Led → Mp → Prop} {N : Nat} {W : Wd} {feA ceA i : Nat} {ts : List Tm} {ns as rs : Array Value}
theorem Stg.feed {h h' : Heap} {σ : SG} (k : SOk W feA ceA) (Fd : Feed w feA ceA σ.i h) {C : List Addr} (hC : ∀ a ∈ C, a ∈ W.bank ++ W.fun3) (K : Keep C h h') : Feed w feA ceA σ.i h' :=
  Fd.two fun b o q e => K b o (fun r => by
    have := k.out b (hC b r)
    rcases q with rfl | rfl
    · exact Nat.lt_irrefl _ (Nat.lt_trans k.a1 this)
    · exact Nat.lt_irrefl _ this) e
theorem J.pickS {wide : Int} {tkw : Tok} (G : Gc w c) (R : Rm c N) (k : SOk W feA ceA) (T : TlD c (Stg w W feA ceA ⟨i, ⟨ts, ns, as, rs⟩⟩) (stgA W feA ceA) D) (kt : Kt D l X) (hi : i ≤ 900) (hw : 0 < wide ∧ wide ≤ 3000)
    (kk : ∀ c' tk R, 0 ≤ c' → c' < wide → TlD c (Stg w W feA ceA ⟨i + 1, ⟨ts, ns, as, rs⟩⟩) (stgA W feA ceA) R → (∀ p, Dr D p l X → p ∈ R) → P (.int c' tk) (X ++ R) m) (hN : autoParam (3 ≤ N) Mine.aT2._auto_1) : J w c l m (PySem.call (.ref 758) [.ref feA, .int wide tkw]) P := by
  refine J.tl (M := [feA]) (Res := fun v σ' => ∃ c' tk, v = .int c' tk ∧ (0 ≤ c' ∧ c' < wide) ∧ σ' = ⟨i + 1, ⟨ts, ns, as, rs⟩⟩) 3 G R hN stg_tl T (fun a h => by rw [List.mem_singleton.mp h]; exact .head _) kt
    (fun g r h tk Q O z hi' ret => pick_fn g O.F.keep r feA ceA i z.2 k.a1 (hi' _ (.head _)) (hi' _ (.tail _ (.head _))) hi wide tkw hw fun c' tk h' tk' h0 h1 K Fd => ret _ _ _ ⟨i + 1, ⟨ts, ns, as, rs⟩⟩ K ⟨?_, Fd⟩ ⟨c', tk, rfl, ⟨h0, h1⟩, rfl⟩) ?_
  · have kk : ∀ a ∈ W.bank ++ W.fun3, ∀ o, h.get? a = some o → h'.get? a = some o := fun a ha o e => K a o (fun q => by
      rw [List.mem_singleton.mp q] at ha
      exact Nat.lt_irrefl _ (Nat.lt_trans k.a1 (k.out _ ha))) e
    refine bnkF_tl.later _ _ _ z.1 (fun b ob xs n e hc hd => K b ob (fun q => ?_) e) kk
    rw [List.mem_singleton.mp q] at e
    obtain ⟨_, ⟨fo, hf, t, ht⟩⟩ := z.2
    rw [hf] at e; cases e
    rw [IsDictOf.cls ht] at hc; exact absurd hc (by simp)
  · rintro v σ' R' ⟨c', tk, rfl, ⟨h0, h1⟩, rfl⟩ T' dr
    exact kk c' tk R' h0 h1 T' dr
theorem coreB : ∀ a ∈ W.core ++ W.fun3, a ∈ W.bank ++ W.fun3 := fun a h => (List.mem_append.mp h).elim (fun h => List.mem_append_left _ (Wd.core_bank a h)) (fun h => List.mem_append_right _ h)
theorem inS {C : List Addr} (h : ∀ a ∈ C, a ∈ W.bank ++ W.fun3) : ∀ a ∈ C, a ∈ stgA W feA ceA := fun a q => .tail _ (.tail _ (h a q))
theorem J.freshS {name : Str} {t1 t2 : Tok} {so n j : Int} (G : Gc w c) (R : Rm c N) (k : SOk W feA ceA) (T : TlD c (Stg w W feA ceA ⟨i, ⟨ts, ns, as, rs⟩⟩) (stgA W feA ceA) D) (kt : Kt D l X) (hn : (ns.size : Int) = n) (hj : (ts.length : Int) = j) (hsz : ns.size ≤ 9) (hz : ts.length ≤ 900) (hnew : (⟨(Str.ofString "app"), [], so, .i n⟩ : Tm) ∉ ts)
    (kk : ∀ bT tk R, TlD c (Stg w W feA ceA ⟨i, ⟨ts ++ [⟨(Str.ofString "app"), [], so, .i n⟩], ns.push (.str name t1), as.push (.ref bT), rs.push (.int so t2)⟩⟩) (stgA W feA ceA) R → (∀ p, Dr D p l X → p ∈ R) → P (.int j tk) (X ++ R) m) (hN : autoParam (10 ≤ N) Mine.aT2._auto_1) :
    J w c l m (PySem.call (.ref 193) [.ref W.bA, .str name t1, .int so t2]) P := by
  subst hn; subst hj
  refine J.tl (M := W.core ++ W.fun3) (Res := fun v σ' => ∃ (bT : Addr) (tk : Tok), v = .int (ts.length : Int) tk ∧ σ' = ⟨i, ⟨ts ++ [⟨(Str.ofString "app"), [], so, .i ns.size⟩], ns.push (.str name t1), as.push (.ref bT), rs.push (.int so t2)⟩⟩) 10 G R hN stg_tl T (inS coreB) kt
    (fun g r h tk Q O z hi' ret => fresh_fn g O.F.keep r W k.wok z.1 (fun a h => hi' a (.tail _ (.tail _ h))) name t1 t2 so hsz hz fun k1 bT tk h' tk' ts' M B' K => ?_) ?_
  · obtain ⟨e1, e2⟩ := M.new hnew
    subst e1; subst e2
    exact ret _ _ _ ⟨i, ⟨_, _, _, _⟩⟩ K ⟨B', Stg.feed (σ := ⟨i, ⟨ts, ns, as, rs⟩⟩) k z.2 coreB K⟩ ⟨bT, tk, rfl, rfl⟩
  · rintro v σ' R' ⟨bT, tk, rfl, rfl⟩ T' dr
    exact kk bT tk R' T' dr
theorem J.declS {name : Str} {t1 t2 : Tok} {aT : Addr} {items : Array Value} {so n : Int} (G : Gc w c) (R : Rm c N) (k : SOk W feA ceA) (T : TlD c (Stg w W feA ceA ⟨i, ⟨ts, ns, as, rs⟩⟩) (stgA W feA ceA) D) (kt : Kt D l X) (hT : ∀ h, Own c l m h → IsTup h aT items) (hn : (ns.size : Int) = n) (hsz : ns.size ≤ 9)
    (kk : ∀ tk R, TlD c (Stg w W feA ceA ⟨i, ⟨ts, ns.push (.str name t1), as.push (.ref aT), rs.push (.int so t2)⟩⟩) (stgA W feA ceA) R → (∀ p, Dr D p l X → p ∈ R) → P (.int n tk) (X ++ R) m) (hN : autoParam (6 ≤ N) Mine.aT2._auto_1) :
    J w c l m (PySem.call (.ref 179) [.ref W.bA, .str name t1, .ref aT, .int so t2]) P := by
  subst hn
  refine J.tl (M := W.fun3) (Res := fun v σ' => ∃ tk, v = .int (ns.size : Int) tk ∧ σ' = ⟨i, ⟨ts, ns.push (.str name t1), as.push (.ref aT), rs.push (.int so t2)⟩⟩) 6 G R hN stg_tl T (inS fun a h => List.mem_append_right _ h) kt
    (fun g r h tk Q O z hi' ret => declare_fn g O.F.keep r W k.wok z.1.1 (fun a h => hi' a (.tail _ (.tail _ h))) z.1.2 name t1 t2 aT items so (hT h O) hsz fun tk h' tk' F' K => ret _ _ _ ⟨i, ⟨ts, ns.push (.str name t1), as.push (.ref aT), rs.push (.int so t2)⟩⟩ K ⟨⟨z.1.1.funs k.wok z.1.2 K, F'⟩, Stg.feed (σ := ⟨i, ⟨ts, ns, as, rs⟩⟩) k z.2 (fun a h => List.mem_append_right _ h) K⟩ ⟨tk, rfl, rfl⟩) ?_
  rintro v σ' R' ⟨tk, rfl, rfl⟩ T' dr
  exact kk tk R' T' dr
theorem J.appS {q : Int} {jt : Tok} {lA n0 : Nat} {x : Int} {xt : Tok} {sT : Nat} {so : Int} {st rt : Tok} {nm : Value} {t : Tm} {j : Int} (G : Gc w c) (R : Rm c N) (k : SOk W feA ceA) (T : TlD c (Stg w W feA ceA ⟨i, ⟨ts, ns, as, rs⟩⟩) (stgA W feA ceA) D) (kt : Kt D l X) (hl : (lA, lsO #[.int x xt] n0) ∈ l) (hne : ∀ h, Own c l m h → lA ∉ W.bank ++ W.fun3) (hs : (sT, tupO [.int so st]) ∈ l)
    (f0 : 0 ≤ q) (f1 : q < 10) (q1 : ns[q.toNat]? = some nm) (q2 : as[q.toNat]? = some (.ref sT)) (q3 : rs[q.toNat]? = some (.int so rt)) (x0 : 0 ≤ x) (x1 : x < 1000) (hx : ts[x.toNat]? = some t) (ht : t.sort = so) (hz : ts.length ≤ 900) (hj : (ts.length : Int) = j) (hnew : (⟨(Str.ofString "app"), [x], so, .i q⟩ : Tm) ∉ ts)
    (kk : ∀ tk R, TlD c (Stg w W feA ceA ⟨i, ⟨ts ++ [⟨(Str.ofString "app"), [x], so, .i q⟩], ns, as, rs⟩⟩) (stgA W feA ceA) R → (∀ p, Dr D p l X → p ∈ R) → P (.int j tk) (X ++ R) m) (hN : autoParam (10 ≤ N) Mine.aT2._auto_1) :
    J w c l m (PySem.call (.ref 417) [.ref W.bA, .int q jt, .ref lA]) P := by
  subst hj
  refine J.tl (M := W.core ++ W.fun3) (Res := fun v σ' => ∃ (tk : Tok), v = .int (ts.length : Int) tk ∧ σ' = ⟨i, ⟨ts ++ [⟨(Str.ofString "app"), [x], so, .i q⟩], ns, as, rs⟩⟩) 10 G R hN stg_tl T (inS coreB) kt
    (fun g r h tk Q O z hi' ret => app_fn g O.F.keep r W k.wok z.1 (fun a h => hi' a (.tail _ (.tail _ h))) q jt lA n0 x xt sT so st rt nm t (O.N _ hl).1 (O.N _ hl).2.2 (hne h O) (O.N _ hs).1 f0 f1 q1 q2 q3 x0 x1 hx ht hz fun k1 tk h' tk' ts' M B' K => ?_) ?_
  · obtain ⟨e1, e2⟩ := M.new hnew
    subst e1; subst e2
    exact ret _ _ _ ⟨i, ⟨_, _, _, _⟩⟩ K ⟨B', Stg.feed (σ := ⟨i, ⟨ts, ns, as, rs⟩⟩) k z.2 coreB K⟩ ⟨tk, rfl, rfl⟩
  · rintro v σ' R' ⟨tk, rfl, rfl⟩ T' dr
    exact kk tk R' T' dr
theorem J.makeS {op : Str} {x y so d : Int} {t1 t2 t3 xt yt : Tok} {aT : Addr} {j : Int} (G : Gc w c) (R : Rm c N) (k : SOk W feA ceA) (T : TlD c (Stg w W feA ceA ⟨i, ⟨ts, ns, as, rs⟩⟩) (stgA W feA ceA) D) (kt : Kt D l X) (hop : op ≠ (Str.ofString "num")) (hs : (aT, tupO [.int x xt, .int y yt]) ∈ l) (hz : ts.length ≤ 900) (hj : (ts.length : Int) = j) (hnew : (⟨op, [x, y], so, .i d⟩ : Tm) ∉ ts)
    (kk : ∀ tk R, TlD c (Stg w W feA ceA ⟨i, ⟨ts ++ [⟨op, [x, y], so, .i d⟩], ns, as, rs⟩⟩) (stgA W feA ceA) R → (∀ p, Dr D p l X → p ∈ R) → P (.int j tk) (X ++ R) m) (hN : autoParam (3 ≤ N) Mine.aT2._auto_1) :
    J w c l m (PySem.call (.ref 270) [.ref W.bA, .str op t1, .ref aT, .int so t2, .int d t3]) P := by
  subst hj
  refine J.tl (M := W.core) (Res := fun v σ' => ∃ (tk : Tok), v = .int (ts.length : Int) tk ∧ σ' = ⟨i, ⟨ts ++ [⟨op, [x, y], so, .i d⟩], ns, as, rs⟩⟩) 3 G R hN stg_tl T (inS fun a h => List.mem_append_left _ (Wd.core_bank a h)) kt
    (fun g r h tk Q O z hi' ret => make_fn g O.F.keep r W k.wok z.1.1.inst z.1.1.dict z.1.1.core (fun a h => hi' a (.tail _ (.tail _ (List.mem_append_left _ h)))) rfl rfl rfl rfl rfl ⟨op, [x, y], so, .i d⟩ (wf_i hop) t1 t2 aT (.int d t3) (items_int (O.N _ hs).1 (.cons _ _ (.cons _ _ .nil))) ⟨_, rfl⟩ hz fun k1 tk h' tk' ts' M K C' => ?_) ?_
  · obtain ⟨e1, e2⟩ := M.new hnew
    subst e1; subst e2
    exact ret _ _ _ ⟨i, ⟨_, _, _, _⟩⟩ K ⟨z.1.core k.wok K C', Stg.feed (σ := ⟨i, ⟨ts, ns, as, rs⟩⟩) k z.2 (fun a h => List.mem_append_left _ (Wd.core_bank a h)) K⟩ ⟨tk, rfl, rfl⟩
  · rintro v σ' R' ⟨tk, rfl, rfl⟩ T' dr
    exact kk tk R' T' dr
end
end Mine

open PySem PySem.W PySem.Calls PyProof.Rows
set_option Elab.async false
set_option linter.all false
set_option maxRecDepth 100000
set_option maxHeartbeats 40000000
namespace Mine
section
variable {w : World} {c : Cx} {l D X : Led} {m : Mp} {P : Value → Led → Mp → Prop} {PF : Flow → Led → Mp → Prop} {PP : List (Value × Value) → Led → Mp → Prop} {N : Nat} {env : Env}
theorem J.sliceTo {value : Expr} {n : Int} {k0 : Nat} {cp sp pos : Pos} {A : Addr} {vs : List Value} {ns : List Int} (k : J w c l m (eval value env) (fun o l m => o = .ref A ∧ c.g.IsList A vs.toArray ∧ vs.toArray.size ≤ sizeLine ∧ IntsAre vs ns ∧ 0 ≤ n ∧ ∀ (d : Nat) zs, (∀ p ∈ l, @LT.lt Nat _ p.1 d) → IntsAre zs (ns.take n.toNat) → P (.ref d) ((d, lsO zs.toArray 0) :: l) m))
    (hs : autoParam (∀ a b, subscripted (.Slice none (some (.Constant (.int n) k0 cp)) none sp) false (.ref a) (.ref b) = operate [.ref b, .ref a] (getItem (.ref a) (.ref b))) Mine.aT13._auto_1) (ht : autoParam (∀ a r, letTemporaryGo value (.ref a) r = pure ()) Mine.aT13._auto_1) :
    J w c l m (eval (.Subscript value (.Slice none (some (.Constant (.int n) k0 cp)) none sp) pos) env) P := fun h tk O =>
  Subscript_ (k.run O fun v l m h tk O ⟨e, hl, hz, hi, h0, p⟩ => by
    subst e
    refine wpAny_Slice (wpAny_pure ?_)
    show wpAny _ _ (eval (.Constant (.int n) k0 cp) env) _ _ _
    refine wpAny_Constant_int (wpAny_pure ?_)
    refine kmk_slice (s := c.st h (tk + 1)) O.F O.N (hl.at fun o e => O.F.keep A o e) IsPart.none (IsPart.int _ _) (fun d h' F' N' lt => ⟨_, _, _, _, rfl, ⟨F', N', O.nd.cons lt⟩, ?_⟩) (hs _ _) (ht _) hz
    have q := p d (slicePick vs.toArray none (some n) none).toList lt (kmk_upto hi h0)
    rwa [Array.toArray_toList] at q)
noncomputable def JPairs (w : World) (c : Cx) (env : Env) (pos : Pos) (keys : List (Option Expr)) (vals : List Expr) (l : Led) (m : Mp) (PP : List (Value × Value) → Led → Mp → Prop) : Prop := J w c l m (evalPairs (pairTrees keys vals env pos)) PP
theorem J.pcons {pos : Pos} {ke ve : Expr} {ks : List (Option Expr)} {vs : List Expr} (k : J w c l m (eval ke env) (fun kv l m => J w c l m (eval ve env) (fun vv l m => JPairs w c env pos ks vs l m (fun r l m => PP ((kv, vv) :: r) l m)))) : JPairs w c env pos (some ke :: ks) (ve :: vs) l m PP := fun _ _ O =>
  pairTrees_cons_walk (k.run O fun _ _ _ _ _ O p => p.run O fun _ _ _ _ _ O p => p.run O fun _ _ _ _ _ O p => ⟨_, _, _, _, rfl, O, p⟩)
theorem J.pnil {pos : Pos} (k : PP [] l m) : JPairs w c env pos [] [] l m PP := fun _ _ O => pairTrees_nil_walk ⟨_, _, _, _, rfl, O, k⟩
inductive KDictS (w : World) (P : Value → Led → Mp → Prop) (d : Addr) (o : Obj) (r : List (Value × Value)) (l2 : Led) (m2 : Mp) : Prop
  | mk (gg : Obj → Led) (u : UpF d o l2 gg) (ak : allStrKeys r = true) (an : ((strPairs r).map (·.1)).Nodup) (q : ∀ o', o'.IsDictOf (PySem.strKind PR w) (strPairs r) → P (.ref d) (gg o') m2) : KDictS w P d o r l2 m2
theorem J.dictS {pos : Pos} {keys : List (Option Expr)} {vals : List Expr} (G : Gc w c) (k : ∀ d o, (∀ p ∈ l, @LT.lt Nat _ p.1 d) → (d == sysModules) = false → JPairs w c env pos keys vals ((d, o) :: l) m (KDictS w P d o))
    (hall : autoParam (keys.all (·.isSome) = true) Mine.aT3._auto_1) (hl : autoParam (keys.length = vals.length) Mine.aT3._auto_1) (h0 : keys ≠ [] := by k_dflt exact List.cons_ne_nil _ _) (hlen : keys.length ≤ 15 := by k_dflt exact Nat.le_of_ble_eq_true rfl) : J w c l m (eval (.Dict keys vals pos) env) P := fun h tk O =>
  kdn_eval (knd := PySem.strKind PR w) O.F O.N G.nolimit hall hl h0 hlen fun d h' o F' N' lt lo hi => J.run (k d o lt lo) ⟨F', N', O.nd.cons lt⟩ fun r l2 m2 h2 tk2 O2 ⟨gg, u, ak, an, q⟩ =>
    kdn_made_str O2.F O2.N (u.upd O2.nd) hi ak an fun h3 o' F3 N3 hd => ⟨_, _, _, _, rfl, ⟨F3, N3, (u.up o').nd O2.nd⟩, q o' hd⟩
inductive KTupFC (PF : Flow → Led → Mp → Prop) (K : Addr) (y : Str) (v : Value) (l : Led) (m : Mp) : Prop
  | mk (D : Addr) (v1 v2 : Value) (o : Obj) (v0 : Option Value) (gg : Obj → Led) (e : v = .ref D) (h : (D, tupO [v1, v2]) ∈ l) (u : UpF K o l gg) (hd : o.data = .cell v0) (p : ∀ o', o'.data = .cell (some v1) → PF .next (gg o') ((y, v2) :: m)) : KTupFC PF K y v l m
theorem J.tupFC {x y : Str} {px py : Pos} {k0 : Nat} {tpos pos : Pos} {value : Expr} {K : Addr} (he : EnvX c env) (R : Rm c N) (hc : env.cells.lookup x = some K) (k : J w c l m (eval value env) (KTupFC PF K y))
    (hx : autoParam (env.kindOf x = some .cell) Mine.aT3._auto_1) (hy : autoParam (env.kindOf y = some .local) Mine.aT3._auto_1) (hs : autoParam (swapsWithSole [.Tuple [.Name x px, .Name y py] k0 tpos] value pos.line env = pure false) Mine.aT3._auto_1) (hw : autoParam (swappedStores [.Tuple [.Name x px, .Name y py] k0 tpos] value env = pure none) Mine.aT3._auto_1)
    (ha : autoParam ((assignEach [.Name x px, .Name y py] env).map (·.2) = [PySem.assign (.Name x px) env, PySem.assign (.Name y py) env]) Mine.aT3._auto_1) (hst : autoParam ((assignEach [.Name x px, .Name y py] env).findIdx? (·.1) = none) Mine.aT3._auto_1) :
    J w c l m (exec (.Assign [.Tuple [.Name x px, .Name y py] k0 tpos] value pos) env) PF := fun h tk O => by
  obtain ⟨_, _, _, _, eA, _⟩ := R
  refine Assign_Tuple (k.run O ?_) hs hw
  rintro v l m h tk O ⟨D, v1, v2, o, v0, gg, rfl, hD, u, hd, p⟩
  refine unpackN_ O.F O.N (⟨_, (O.N _ hD).1, rfl, _, rfl⟩ : IsTup h D [v1, v2].toArray) (by rw [eA]) (by rw [show (assignEach [Expr.Name x px, Expr.Name y py] env).length = ((assignEach [Expr.Name x px, Expr.Name y py] env).map (·.2)).length from (List.length_map ..).symm, ha]; rfl) hst fun h' F' N' => ?_
  rw [ha]
  exact assignInOrder_cons (assign_Name (store_runC he hx hc (u.upd O.nd) u hd ⟨F', N', O.nd⟩ fun h2 tk2 o' hd' O2 => assignInOrder_cons (assign_Name (store_run he hy O2 fun h3 tk3 O3 => assignInOrder_nil ⟨_, _, _, _, rfl, O3, p o' hd'⟩))))
theorem J.listOfL {A : Addr} {vs : List Value} {n : Nat} (i : Nat) (h1 : nth l i = some (A, lsO vs.toArray n)) (hz : vs.length ≤ 16384) (k : ∀ (d : Nat) n, A < d → P (.ref d) ((d, lsO vs.toArray n) :: l) m) : J w c l m (PySem.call (.type "list") [.ref A]) P := fun h tk O =>
  list_copyK O.F O.N (News.isList O.N (nth_mem h1)) (fun D n h' F' N' lt => ⟨_, _, _, _, rfl, ⟨F', N', O.nd.cons lt⟩, k D n (lt _ (nth_mem h1))⟩) (by rw [sizeLine_eq]; simp; lia)
theorem J.pairI {a : Addr} {k : Int} {tk t1 t2 : Tok} {value slice : Expr} (hm : (a, tupO [.int 1 t1, .int 2 t2]) ∈ l) (h0 : 0 ≤ k) (hk : k < 2) (h : ∀ b t, b = 1 ∨ b = 2 → P (.int b t) l m)
    (hs : autoParam (subscripted slice false (.ref a) (.int k tk) = operate [.ref a, .int k tk] (getItem (.ref a) (.int k tk))) Mine.aT4._auto_1) : J w c l m (subscriptTail value slice (.ref a) (.int k tk)) P := fun hh _ O => by
  have hT : hh.IsTuple a #[.int 1 t1, .int 2 t2] := ⟨_, (O.N _ hm).1, rfl, _, rfl⟩
  have : k = 0 ∨ k = 1 := by lia
  rcases this with rfl | rfl
  · exact tail_any hT.typeIs PySem.F.slot_tuple_getitem.lookup (getItem_tuple hT (by decide) (by decide) (j := 0) rfl rfl ⟨_, _, _, _, rfl, O, h _ _ (.inl rfl)⟩) hs
  · exact tail_any hT.typeIs PySem.F.slot_tuple_getitem.lookup (getItem_tuple hT (by decide) (by decide) (j := 1) rfl rfl ⟨_, _, _, _, rfl, O, h _ _ (.inr rfl)⟩) hs
theorem bank_parts {W : Wd} {q : Addr → Prop} (h1 : q W.dA) (h2 : q W.bA) (h3 : ∀ a ∈ W.core ++ W.fun3, q a) : ∀ a ∈ W.bank ++ W.fun3, q a := fun a ha =>
  (List.mem_append.mp ha).elim (fun ha => (List.forall_mem_cons.mpr ⟨h1, List.forall_mem_cons.mpr ⟨h2, fun a ha => h3 a (List.mem_append_left _ ha)⟩⟩ : ∀ a ∈ W.bank, q a) a ha) fun ha => h3 a (List.mem_append_right _ ha)
theorem J.bank0 (G : Gc w c) (R : Rm c N) (hl : ∀ p ∈ l, NotTup p.2) (lo : ∃ p ∈ l, @LT.lt Nat _ 100 p.1) (k : ∀ W R', W.Ok → (∀ p ∈ l, @LT.lt Nat _ p.1 W.dA) → TlD c (BnkF w W ⟨T3, #[], #[], #[]⟩) (W.bank ++ W.fun3) R' → P (.ref W.bA) (l ++ R') m) (hN : autoParam (17 ≤ N) Mine.aT2._auto_1) :
    J w c l m (PySem.call (.ref 656) []) P := fun h tk O => by
  obtain ⟨mean, mg, mb, g⟩ := G.gd
  obtain ⟨dp, un, fr, gd, eA, r⟩ := R
  have rdp := r.dp
  have run := r.un
  rw [eA]
  have X₀ := g.X
  have : PySem.Challenge.rw_sj0101_01.row.prog = PySem.Challenge.rw_sj0101_01.row.prog → heapK = heapK → True := by
    k_fill
    exact fun _ _ => trivial
  refine call_cls O.F X₀ O.N (by k_is) (by k_is) (by k_is) ?_
  intro x dx h7 F7 N7 lt7 ltx
  obtain ⟨p0, hp0, lo0⟩ := lo
  have lo7 : @LT.lt Nat _ 100 dx := Nat.lt_trans lo0 (lt7 p0 hp0)
  refine term_init g F7.keep ⟨by (show dp + 1 + 16 < _); lia, by (have hc : (Code.builtin "type.__call__" ⟨(.ref 656 : Value) :: ([] ++ []), []⟩).cUnits ≤ 10 := by decide); (show un + (Code.builtin "type.__call__" ⟨(.ref 656 : Value) :: ([] ++ []), []⟩).cUnits + 20 * 16 < cLine); lia⟩ x dx ltx lo7 (N7.get (.head _)) (N7.get (.tail _ (.head _))) (N7 _ (.head _)).2.2 (N7 _ (.tail _ (.head _))).2.2 ?_
  intro W h9 tk9 ok ed eb B f1 f2 f3 fr9 K
  subst ed; subst eb
  obtain ⟨R9, F9, N9, off9, eR⟩ := bound F7 N7 K l (fun a ha => ⟨dictOf [] 0, by rw [List.mem_singleton.mp ha]; exact .tail _ (.head _)⟩) (fun p hp => K _ _ (fun q => Nat.ne_of_lt (lt7 p hp) (List.mem_singleton.mp q)) (N7 p (.tail _ (.tail _ hp))).1) (fun p hp => ⟨p.2, .tail _ (.tail _ hp)⟩)
  have bd : Bnd c.g c.L h9 l R9 := ⟨⟨_, F9⟩, eR, fun p hp => ⟨(N9 p (List.mem_append_left _ hp)).1, hl p hp⟩⟩
  have z : BnkF w W ⟨T3, #[], #[], #[]⟩ h9 := ⟨B, ⟨⟨_, f1⟩, ⟨_, f2⟩, ⟨_, f3⟩, by simp⟩⟩
  have nl : ∀ a : Nat, W.dA ≤ a → a ∉ l.map (·.1) := fun a h q => by
    obtain ⟨p, hp, e⟩ := List.mem_map.mp q
    exact Nat.lt_irrefl _ (Nat.lt_of_lt_of_le (e ▸ lt7 p hp) h)
  have key : ∀ a ∈ W.bank ++ W.fun3, (c.g.get? a = none ∧ a ≠ c.L) ∧ a ∉ l.map (·.1) := bank_parts ⟨⟨(N7 _ (.tail _ (.head _))).2.2, (N7 _ (.tail _ (.head _))).2.1⟩, nl _ (Nat.le_refl _)⟩ ⟨⟨(N7 _ (.head _)).2.2, (N7 _ (.head _)).2.1⟩, nl _ (Nat.le_of_lt ltx)⟩
    fun a ha => ⟨new_off F7 (fr9 a (ok.up a ha) ha), nl _ (Nat.le_of_lt (Nat.lt_trans ltx (ok.up a ha)))⟩
  have inR : ∀ a ∈ W.bank ++ W.fun3, ∀ o, h9.get? a = some o → (a, o) ∈ R9 := fun a ha o e => bd.in_ e (key a ha).1.2 (key a ha).1.1 (key a ha).2
  refine ⟨rfl, _, _, _, _, rfl, ⟨F9, N9, nd_app O.nd (eR ▸ nd_tail) off9⟩, k W R9 ok lt7 ⟨fun h2 l2 m2 O2 s => bnkF_tl.later _ _ _ z (bd.tup O2.F O2.N s) fun a ha o e => (O2.N _ (s _ (inR a ha o e))).1, fun a ha => let ⟨o, e⟩ := bnkF_tl.ex _ _ z a ha; ⟨o, inR a ha o e⟩⟩⟩
theorem J.lo {α : Type} {t : PySem.Sem α} {PA : α → Led → Mp → Prop} (G : Gc w c) (k : @LT.lt Nat _ 100 c.L → J w c l m t PA) : J w c l m t PA := fun h tk O => k (by
  obtain ⟨mean, mg, mb, g⟩ := G.gd
  have X₀ := g.X
  have : PySem.Challenge.rw_sj0101_01.row.prog = PySem.Challenge.rw_sj0101_01.row.prog → heapK = heapK → True := by
    k_fill
    exact fun _ _ => trivial
  have h6 : ((heapK w.params).lookup 660).isSome = true := by first | k_is | rfl | decide
  obtain ⟨o6, e6⟩ := Option.isSome_iff_exists.mp h6
  have h7 : @LT.lt Nat _ 660 c.g.objs.size := Heap.lt_size (X₀ _ _ e6)
  have h8 : @LE.le Nat _ c.g.objs.size c.L := O.F.above
  exact Nat.lt_of_lt_of_le (Nat.lt_trans (by decide) h7) h8) h tk O
theorem J.sl {α : Type} {t : PySem.Sem α} {PA : α → Led → Mp → Prop} {l' : Led} (e : l'.Sublist l) (k : J w c l' m t PA) : J w c l m t PA := fun h tk O => k h tk (O.sub (fun p hp => e.mem hp) (O.nd.sublist e))
theorem Stg.start {W : Wd} {f : FS} {fe ce n : Nat} {o : Obj} {zs : List Value} {ns : List Int} {t1 t2 t3 : Tok} {R : Led} (T : TlD c (BnkF w W f) (W.bank ++ W.fun3) R) (d : o.IsDictOf (PySem.strKind PR w) (strPairs [(.str (Str.ofString "cells") t1, .ref ce), (.str (Str.ofString "at") t2, .int 0 t3)])) (hin : IntsAre zs ns) (hz : ns.length ≤ 60) :
    TlD c (Stg w W fe ce ⟨0, f⟩) (stgA W fe ce) ((ce, lsO zs.toArray n) :: (fe, o) :: R) :=
  ⟨fun h l m O s => ⟨T.at_ h l m O fun p hp => s p (.tail _ (.tail _ hp)), ⟨⟨_, ns, _, (O.N _ (s _ (.head _))).1, by simpa using hin, by have := hin.length; simp; lia⟩, ⟨o, (O.N _ (s _ (.tail _ (.head _)))).1, t3, d⟩⟩⟩,
    List.forall_mem_cons.mpr ⟨⟨_, .tail _ (.head _)⟩, List.forall_mem_cons.mpr ⟨⟨_, .head _⟩, fun a ha => let ⟨o, e⟩ := T.has a ha; ⟨o, .tail _ (.tail _ e)⟩⟩⟩⟩
theorem TlD.offH {Z : Heap → Prop} {C : List Addr} {a : Nat} {o : Obj} {h : Heap} (T : TlD c Z C D) (O : Own c ((a, o) :: l) m h) (hs : ∀ p ∈ D, p ∈ l) : a ∉ C := fun q => by
  obtain ⟨o', ho⟩ := T.has _ q
  exact (List.pairwise_cons.mp O.nd).1 _ (hs _ ho) rfl
theorem J.unkL {lU n : Nat} {k : Int} {tk t3 t4 t5 t6 : Tok} {value slice : Expr} (i : Nat) (h1 : nth l i = some (lU, lsO #[.int 3 t3, .int 4 t4, .int 5 t5, .int 6 t6] n)) (h0 : 0 ≤ k) (hk : k < 4) (h : ∀ t, P (.int (3 + k) t) l m)
    (hs : autoParam (subscripted slice false (.ref lU) (.int k tk) = operate [.ref lU, .int k tk] (getItem (.ref lU) (.int k tk))) Mine.aT4._auto_1) : J w c l m (subscriptTail value slice (.ref lU) (.int k tk)) P := by
  have : k = 0 ∨ k = 1 ∨ k = 2 ∨ k = 3 := by lia
  rcases this with rfl | rfl | rfl | rfl
  · exact J.item i h1 (by decide) (by decide) rfl (h _) hs
  · exact J.item i h1 (by decide) (by decide) rfl (h _) hs
  · exact J.item i h1 (by decide) (by decide) rfl (h _) hs
  · exact J.item i h1 (by decide) (by decide) rfl (h _) hs
theorem TlD.bkS {W : Wd} {fe ce : Nat} {σ : SG} (T : TlD c (Stg w W fe ce σ) (stgA W fe ce) D) : BkD w c W σ.f.ts D :=
  ⟨fun h l m O s => (T.at_ h l m O s).1.1, fun _ _ _ O s a ha => T.hi O s a (.tail _ (.tail _ (List.mem_append_left _ ha))), fun a ha => T.has a (.tail _ (.tail _ (List.mem_append_left _ ha)))⟩
end
end Mine

open PySem PySem.W PySem.Calls PyProof.Rows
set_option Elab.async false
set_option linter.all false
set_option maxRecDepth 100000
set_option maxHeartbeats 40000000
namespace Mine
open PyProof.Rows.LCg
section
variable {prog : Program} {w : World} {A : Around} {E : Value → Shared → Prop} {s : Shared} {h₀ : Heap} {L : Addr} {m : Str → Option Value} {env : Env} {Kk : Type} [DecidableEq Kk] {knd : KeyKind prog w Kk}
noncomputable def DRest (knd : KeyKind prog w Kk) (A : Around) (h₀ : Heap) (L : Addr) (m : Str → Option Value) (env : Env) (vx : PySem.Expr) (x : Str) (scope : Scope) (cl : List (Str × Addr)) (s : Shared) (S : List (Addr × Obj) → Prop) (P : Nat → Value → Prop) (kf : Nat → Kk) (z : Nat)
    (Fin : List (Kk × Value) → List (Addr × Obj) → Prop) : Nat → Nat → List (Kk × Value) → List (Addr × Obj) → Prop
  | 0, _, kvs, news => Fin kvs news
  | k + 1, i, kvs, news => ∀ v I oI C oC D oD m₂ h tk (E' : Value → Shared → Prop), P i v → NsObj oC m₂ → m₂ x = some v → oD.IsDictOf knd kvs → Fr h₀ L h m → News h₀ L h ((I, oI) :: (C, oC) :: (D, oD) :: news) → Off3 I C D news → ((@Ne Nat I C) ∧ (@Ne Nat I D) ∧ (@Ne Nat C D)) → (@LE.le Nat _ z I ∧ @LE.le Nat _ z C ∧ @LE.le Nat _ z D) → oI.cls ≠ .type "tuple" →
      wpAny (model prog w) A (eval vx (compEnvC scope cl C env)) (CompEnd h₀ L m { s with heap := h, toks := tk } I oI C oC D oD S (fun y news' => DRest knd A h₀ L m env vx x scope cl s S P kf z Fin k (i + 1) (stored kvs (kf i) y) news')) E' { s with heap := h, toks := tk }
theorem stored_len {kvs : List (Kk × Value)} {k : Kk} {y : Value} {i : Nat} (h : kvs.length ≤ i) : (stored kvs k y).length ≤ i + 1 := Nat.le_trans (stored_length_le kvs k y) (Nat.succ_le_succ h)
inductive BD {prog : Program} {w : World} {Kk : Type} [DecidableEq Kk] (knd : KeyKind prog w Kk) (A : Around) (h₀ : Heap) (L : Addr) (m : Str → Option Value) (env : Env) (vx : PySem.Expr) (x : Str) (scope : Scope) (cl : List (Str × Addr)) (s₂ : Shared) (I C D : Addr) (n : Nat) (P : Nat → Value → Prop) (St : Nat → Heap → Prop) (S : List (Addr × Obj) → Prop) (kf : Nat → Kk) (z : Nat) (Fin : List (Kk × Value) → List (Addr × Obj) → Prop) (k : Nat) (s' : Shared) : Prop
  | mk (h' : Heap) (tk i : Nat) (kvs : List (Kk × Value)) (oD : Obj) (m' : Str → Option Value) (news' : List (Addr × Obj)) (e : s' = { s₂ with heap := h', toks := tk }) (hi : i ≤ n) (hk : k = n + 1 - i) (hl : kvs.length ≤ i) (dD : oD.IsDictOf knd kvs) (st : St i h') (F : Fr h₀ L h' m) (hn : h'.Ns C m')
      (N : News h₀ L h' ((D, oD) :: news')) (off : Off3 I C D news') (hS : S news') (R : DRest knd A h₀ L m env vx x scope cl s₂ S P kf z Fin (n - i) i kvs news') : BD knd A h₀ L m env vx x scope cl s₂ I C D n P St S kf z Fin k s'
theorem block_D {vx iter : PySem.Expr} {x : Str} {px kp : Pos} {scope : Scope} {cl : List (Str × Addr)} {pos : Pos} {s₂ : Shared} {I : Addr} {fp : List Addr} {n : Nat} {P : Nat → Value → Prop} {kf : Nat → Kk} {z : Nat} {St : Nat → Heap → Prop} {S : List (Addr × Obj) → Prop} {news : List (Addr × Obj)}
    {Fin : List (Kk × Value) → List (Addr × Obj) → Prop} {RR : Value → Addr → Result → Shared → Prop}
    (W : Walks prog w A I fp [I] n P St) (hsz : n ≤ sizeLine) (hkf : ∀ i v, P i v → knd.is (kf i) v = true) (hIo : ∀ i h, St i h → ∃ o, h.get? I = some o ∧ o.cls ≠ .type "tuple") (hz : @LE.le Nat _ z I)
    (hSt : ∀ i h h' o nw, St i h → h.get? I = some o → h'.get? I = some o → (∀ b o, h₀.get? b = some o → h'.get? b = some o) → News h₀ L h' nw → S nw → St i h')
    (hcell : ∀ y ∈ scope.names, y.2 ≠ .cell) (hkind : scope.kind = .function) (hx : scope.names.lookup x = some .local) (hdb : (x == ("__debug__" : Str)) = false) (hst : St 0 s₂.heap) (hfp : ∀ b ∈ fp, b < s₂.heap.objs.size)
    (F : Fr h₀ L s₂.heap m) (N : News h₀ L s₂.heap news) (hIL : L ≠ I) (hI₀ : h₀.get? I = none) (off : ∀ p ∈ news, p.1 ≠ I) (hS : S news)
    (R : DRest knd A h₀ L m env vx x scope cl s₂ S P kf z Fin n 0 [] news)
    (hRR : ∀ D oD C h tk m' kvs news', @LE.le Nat _ z D → oD.IsDictOf knd kvs → Fr h₀ L h m → News h₀ L h ((D, oD) :: news') → Off1 D news' → h.Ns C m' → h₀.get? C = none → h₀.get? D = none → C ≠ L → D ≠ L → C ≠ D → (∀ p ∈ news', p.1 ≠ C) → Fin kvs news' → RR (.ref D) C (.ok .next) { s₂ with heap := h, toks := tk }) :
    wpAny (model prog w) A newDict (fun acc s₃ => wpAny (model prog w) A (newFunctionEnv scope env.globals cl [] env.qual none .none (some env)) (fun cenv s₄ =>
      codeAny (model prog w) A (.compStart (.DictComp (.Name x kp) vx [⟨.Name x px, iter, [], 0⟩] scope pos) 0 (.ref I) acc { cenv with scope := relabel scope env }) (RR acc cenv.locals) s₄) E s₃) E s₂ := by
  refine wpAny_newObj_type (wpAny_newFunctionEnv hcell (by intro y hy; simp at hy) (fun h₁ hns₁ hsb₁ => ?_) hkind)
  dsimp only at hns₁ hsb₁ ⊢
  have hnew : (s₂.heap.push { cls := .type "dict", dict := none, data := .dict #[] }).DictOf knd s₂.heap.objs.size [] := Heap.DictOf.new s₂.heap
  generalize hH2 : s₂.heap.push { cls := .type "dict", dict := none, data := .dict #[] } = H2 at hns₁ hsb₁ hnew ⊢
  have hC : H2.objs.size = s₂.heap.objs.size + 1 := by rw [← hH2, Heap.size_push]
  have hDC : s₂.heap.objs.size ≠ H2.objs.size := by rw [hC]; exact Nat.ne_of_lt (Nat.lt_succ_self _)
  have below : ∀ b, b < s₂.heap.objs.size → b ≠ H2.objs.size ∧ b ≠ s₂.heap.objs.size := fun b hb => ⟨by rw [hC]; exact Nat.ne_of_lt (Nat.lt_succ_of_lt hb), Nat.ne_of_lt hb⟩
  have hDf : s₂.heap.objs.size ∉ fp := fun hm => Nat.lt_irrefl _ (hfp _ hm)
  have hCf : H2.objs.size ∉ fp := fun hm => by have := hfp _ hm; rw [hC] at this; exact Nat.lt_irrefl _ (Nat.lt_of_succ_lt this)
  have hIf : I ∈ fp := W.sub I (List.mem_singleton.mpr rfl)
  have hIlt : I < s₂.heap.objs.size := hfp I hIf
  have old : ∀ b o, s₂.heap.get? b = some o → h₁.get? b = some o := fun b o e => hsb₁.extBut b o (below b (Heap.lt_size e)).1 (Heap.get?_push_of_some _ (hH2 ▸ Heap.get?_push_of_some _ e))
  obtain ⟨oD0, hacc, dD0⟩ : ∃ o, h₁.get? s₂.heap.objs.size = some o ∧ o.IsDictOf knd [] := by
    obtain ⟨o, e, d⟩ := Heap.dictOf_iff.mp hnew
    exact ⟨o, hsb₁.extBut _ _ hDC (Heap.get?_push_of_some _ e), d⟩
  have hst₁ : St 0 h₁ := W.frame _ _ _ hst fun b _ o e => old b o e
  have fresh : ∀ a, s₂.heap.objs.size ≤ a → s₂.heap.get? a = none := fun a ha => by
    cases e : s₂.heap.get? a with
    | none => rfl
    | some o' => exact absurd (Heap.lt_size e) (Nat.not_lt.mpr ha)
  have fresh₀ : ∀ a, s₂.heap.objs.size ≤ a → h₀.get? a = none := fun a ha => by
    cases e : h₀.get? a with
    | none => rfl
    | some o' => have := F.keep a o' e; rw [fresh a ha] at this; cases this
  have hD₀ : h₀.get? s₂.heap.objs.size = none := fresh₀ _ (Nat.le_refl _)
  have hC₀ : h₀.get? H2.objs.size = none := fresh₀ _ (by rw [hC]; exact Nat.le_succ _)
  have hLlt : L < s₂.heap.objs.size := F.ns.lt
  have hDL : s₂.heap.objs.size ≠ L := Ne.symm (below L hLlt).2
  have hCL : H2.objs.size ≠ L := Ne.symm (below L hLlt).1
  have hCI : I ≠ H2.objs.size := (below I hIlt).1
  have hzD : @LE.le Nat _ z s₂.heap.objs.size := Nat.le_trans hz (Nat.le_of_lt hIlt)
  have hzC : @LE.le Nat _ z H2.objs.size := by rw [hC]; exact Nat.le_succ_of_le hzD
  have hDI : I ≠ s₂.heap.objs.size := (below I hIlt).2
  have off₀ : Off3 I H2.objs.size s₂.heap.objs.size news := Off3.of fun p hp => ⟨off p hp, (below _ (Heap.lt_size (N p hp).1)).1, (below _ (Heap.lt_size (N p hp).1)).2⟩
  have loop : ∀ s₃ : Shared, s₃ = { s₂ with heap := h₁, toks := s₂.toks + ([] : List (Str × Value)).length } →
      codeAny (model prog w) A (.compLoop (.DictComp (.Name x kp) vx [⟨.Name x px, iter, [], 0⟩] scope pos) 0 (.ref I) (.ref s₂.heap.objs.size) (compEnvC scope cl H2.objs.size env))
        (RR (.ref s₂.heap.objs.size) H2.objs.size) s₃ := by
    rintro s₃ rfl
    refine codeAny_compLoop_testsD
      (BD knd A h₀ L m env vx x scope cl s₂ I H2.objs.size s₂.heap.objs.size n P St S kf z Fin) ?_ (n + 1)
      ⟨h₁, _, 0, [], oD0, _, news, rfl, Nat.zero_le _, rfl, Nat.le_refl _, dD0, hst₁, F.keeps old, hns₁, fun p hp => ?_, off₀, hS, R⟩
    · rintro k s' ⟨h', tk, i, kvs, oD, m', news', rfl, hi, rfl, hkl, dD, hst', F', hn', N', off', hS', R'⟩
      by_cases hlt : i < n
      · obtain ⟨j, hj⟩ : ∃ j, n - i = j + 1 := ⟨n - i - 1, by lia⟩
        rw [hj] at R'
        refine W.item i _ _ _ hlt hst' fun v h₂ tk₂ hPv hst₂ hk₂ => ?_
        refine wpAny_assign_Name (wpAny_storeName_local (lookup_relabel_local hx) (hn'.at' fun o e => hk₂ _ o (by simpa using Ne.symm hCI) e) (fun h₃ hn₃ hs₃ => ?_) (by simp [compEnvC, relabel, hkind]))
        refine wpAny_tests_nil ?_
        simp only [if_true]
        have hst₃ : St (i + 1) h₃ := W.frame _ _ _ hst₂ fun b hb o e => hs₃.extBut b o (fun q => hCf (by have q' : b = H2.objs.size := q; rw [← q']; exact hb)) e
        obtain ⟨oI, heI, hnI⟩ := hIo _ _ hst₃
        refine ldVarK (v := v) hn₃ (by simp) ?_ (by simp [compEnvC, relabel, hkind]) (lookup_relabel_local hx) hdb
        obtain ⟨oC, heC, hoC⟩ := ns_obj hn₃
        have F₃ : Fr h₀ L h₃ m := (fr_but F' hk₂ hIL hI₀).change hs₃ hCL hC₀
        have off3 := off'.mem
        have N₂ : News h₀ L h₂ ((s₂.heap.objs.size, oD) :: news') := news_but N' hk₂ fun p hp => by
          rcases List.mem_cons.mp hp with rfl | hp
          · exact Ne.symm hDI
          · exact (off3 p hp).1
        have N₃ : News h₀ L h₃ ((I, oI) :: (H2.objs.size, oC) :: (s₂.heap.objs.size, oD) :: news') := fun p hp => by
          rcases List.mem_cons.mp hp with rfl | hp
          · exact ⟨heI, Ne.symm hIL, hI₀⟩
          · rcases List.mem_cons.mp hp with rfl | hp
            · exact ⟨heC, hCL, hC₀⟩
            · have z := N₂ p hp
              refine ⟨hs₃.extBut _ _ ?_ z.1, z.2⟩
              rcases List.mem_cons.mp hp with rfl | hp
              · exact hDC
              · exact (off3 p hp).2.1
        refine wpAny_mono (R' v I oI H2.objs.size oC s₂.heap.objs.size oD _ h₃ _ _ hPv hoC (by simp) dD F₃ N₃ off' ⟨hCI, hDI, Ne.symm hDC⟩ ⟨hz, hzC, hzD⟩ hnI) (fun y s₄ h₄ => ?_) fun _ _ e => e
        obtain ⟨h₄, tk₄, news₄, rfl, F₄, N₄, off₄, hS₄, R₄⟩ := h₄
        have zI := (N₄ (I, oI) List.mem_cons_self).1
        have zC := (N₄ (H2.objs.size, oC) (List.mem_cons_of_mem _ List.mem_cons_self)).1
        have zD := (N₄ (s₂.heap.objs.size, oD) (List.mem_cons_of_mem _ (List.mem_cons_of_mem _ List.mem_cons_self))).1
        have N₄' : News h₀ L h₄ news₄ := fun p hp => N₄ p (List.mem_cons_of_mem _ (List.mem_cons_of_mem _ (List.mem_cons_of_mem _ hp)))
        have hst₄ : St (i + 1) h₄ := hSt _ _ _ _ _ hst₃ heI zI F₄.keep N₄' hS₄
        refine wpAny_dictSet_pairs (hsz := by lia) (hkf i v hPv) (Heap.dictOf_iff.mpr ⟨oD, zD, dD⟩) fun h₅ hD₅ hs₅ => ?_
        obtain ⟨oD', eD', dD'⟩ := Heap.dictOf_iff.mp hD₅
        have off4 := off₄.mem
        refine ⟨n + 1 - (i + 1), by lia, h₅, _, i + 1, _, oD', _, news₄, rfl, hlt, rfl, stored_len hkl, dD', W.frame _ _ _ hst₄ fun b hb o e => hs₅.extBut b o (fun q => hDf (q ▸ hb)) e, F₄.change hs₅ hDL hD₀,
          (hoC.ns zC).sameBut hs₅ (Ne.symm hDC), fun p hp => ?_, off₄, hS₄, ?_⟩
        · rcases List.mem_cons.mp hp with rfl | hp
          · exact ⟨eD', hDL, hD₀⟩
          · exact ⟨hs₅.extBut _ _ (off4 p hp).2.2 (N₄' p hp).1, (N₄' p hp).2⟩
        · rw [show n - (i + 1) = j by lia]
          exact R₄
      · obtain rfl : i = n := Nat.le_antisymm hi (Nat.not_lt.mp hlt)
        rw [Nat.sub_self] at R'
        refine W.done _ _ _ hst' fun h₂ tk₂ hk₂ => ?_
        have off3 := off'.mem
        exact hRR _ _ _ h₂ tk₂ _ kvs news' hzD dD (fr_but F' hk₂ hIL hI₀) (news_but N' hk₂ fun p hp => by
          rcases List.mem_cons.mp hp with rfl | hp
          · exact Ne.symm hDI
          · exact (off3 p hp).1) off'.one (hn'.at' fun o e => hk₂ _ o (by simpa using Ne.symm hCI) e) hC₀ hD₀ hCL hDL (Ne.symm hDC) (fun p hp => (off3 p hp).2.1) R'
    · rcases List.mem_cons.mp hp with rfl | hp
      · exact ⟨hacc, hDL, hD₀⟩
      · exact ⟨old _ _ (N p hp).1, (N p hp).2⟩
  exact codeAny_compStart_dict (loop _ rfl) (W.self 0 _ _ _ hst₁ (loop _ rfl))
noncomputable def FinD (knd : KeyKind prog w Kk) (h₀ : Heap) (L : Addr) (m : Str → Option Value) (s : Shared) (Q : Value → Shared → Prop) (z : Nat) (kvs : List (Kk × Value)) (news : List (Addr × Obj)) : Prop :=
  ∀ D oD h tk, oD.IsDictOf knd kvs → Fr h₀ L h m → News h₀ L h ((D, oD) :: news) → Off1 D news → @LE.le Nat _ z D → Q (.ref D) { s with heap := h, toks := tk }
noncomputable def DSrc (knd : KeyKind prog w Kk) (A : Around) (h₀ : Heap) (L : Addr) (m : Str → Option Value) (env : Env) (vx : PySem.Expr) (x : Str) (scope : Scope) (cl : List (Str × Addr)) (Fin : Shared → Nat → List (Kk × Value) → List (Addr × Obj) → Prop) (xv : Value) (s₁ : Shared) : Prop :=
  ∃ ax its news kf, xv = .ref ax ∧ A.handled = none ∧ Fr h₀ L s₁.heap m ∧ News h₀ L s₁.heap news ∧ SrcAt h₀ ax its news ∧ its.size ≤ sizeLine ∧ (∀ i v, its[i]? = some v → knd.is (kf i) v = true) ∧
    ∀ s₂ : Shared, (∃ h, s₂ = { s₁ with heap := h }) → DRest knd A h₀ L m env vx x scope cl s₂ (SrcAt h₀ ax its) (fun i v => its[i]? = some v) kf s₁.heap.objs.size (Fin s₂ s₁.heap.objs.size) its.size 0 [] news
theorem DSrc.ledger {vx : PySem.Expr} {x : Str} {scope : Scope} {cl : List (Str × Addr)} {Fin : Shared → Nat → List (Kk × Value) → List (Addr × Obj) → Prop} {ax : Addr} {its : Array Value} {k : Nat} {news : List (Addr × Obj)} {s₁ : Shared}
    (kf : Nat → Kk) (hh : A.handled = none) (F : Fr h₀ L s₁.heap m) (N : News h₀ L s₁.heap news) (hm : (ax, ({ cls := .type "list", data := .seq its k } : Obj)) ∈ news) (hsz : its.size ≤ sizeLine) (hkf : ∀ i v, its[i]? = some v → knd.is (kf i) v = true)
    (h : ∀ g z, (∀ p ∈ news, p.1 < z) → DRest knd A h₀ L m env vx x scope cl { s₁ with heap := g } (SrcAt h₀ ax its) (fun i v => its[i]? = some v) kf z (Fin { s₁ with heap := g } z) its.size 0 [] news) :
    DSrc knd A h₀ L m env vx x scope cl Fin (.ref ax) s₁ := ⟨ax, its, news, kf, rfl, hh, F, N, .inr ⟨_, hm, rfl, _, rfl⟩, hsz, hkf, fun _ ⟨g, e⟩ => e ▸ h g _ fun p hp => Heap.lt_size (N p hp).1⟩
theorem DictComp_U {vx iter : PySem.Expr} {x : Str} {px kp : Pos} {scope : Scope} {cl : List (Str × Addr)} {pos : Pos} {Q : Value → Shared → Prop} (knd : KeyKind prog w Kk) (_F₀ : Fr h₀ L s.heap m)
    (hclos : closureFor scope env = pure cl) (hcell : ∀ y ∈ scope.names, y.2 ≠ .cell) (hkind : scope.kind = .function)
    (hnames : ∀ y ∈ scope.names, y.2 = .local → scope.names.lookup y.1 = some .local) (hx : scope.names.lookup x = some .local) (hdb : (x == ("__debug__" : Str)) = false)
    (h : wpAny (model prog w) A (eval iter env) (DSrc knd A h₀ L m env vx x scope cl (fun s₂ => FinD knd h₀ L m s₂ Q)) E s)
    (hs : ∀ x, foldedSetIterable iter env x = pure x := by intro _; rfl) :
    wpAny (model prog w) A (eval (.DictComp (.Name x kp) vx [⟨.Name x px, iter, [], 0⟩] scope pos) env) Q E s := by
  rw [arm_eval_DictComp]
  refine wpAny_comprehension_free (use := none) rfl hs hclos hkind hnames (wpAny_mono h (fun xv s₁ h₁ => ?_) fun _ _ e => e)
  rcases h₁ with ⟨ax, its, news, kf, rfl, hh, F, N, S, hsz, hkf, R⟩
  have hl := S.list F.keep N
  have hlt : ax < s₁.heap.objs.size := by obtain ⟨_, e, _⟩ := hl; exact Heap.lt_size e
  refine wpAny_pyIter_list hl ?_
  have up : ∀ b o, s₁.heap.get? b = some o → (s₁.heap.push { cls := .type "list_iterator", data := .fields #[.ref ax, .int 0 0] }).get? b = some o := fun b o e => Heap.get?_push_of_some _ e
  refine block_D (RR := fun acc C => compPost (model prog w) A E none Q acc C) (Walks.list hh s₁.heap.objs.size ax (Nat.ne_of_lt hlt) its) hsz hkf (fun i h st => by obtain ⟨o, e, c, _⟩ := st.1; exact ⟨o, e, by rw [c]; simp⟩) (Nat.le_refl _) list_st hcell hkind hx hdb ⟨⟨_, Heap.get?_push_size _ rfl, rfl, rfl⟩, hl.push _⟩ (fun b hb => ?_)
    (F.keeps up) (N.grown up) (Nat.ne_of_lt F.ns.lt) (next_is_new F) (fun p hp => Nat.ne_of_lt (Heap.lt_size (N p hp).1)) S (R _ ⟨_, rfl⟩) ?_
  · show b < (s₁.heap.push _).objs.size
    rw [Heap.size_push]
    rcases List.mem_cons.mp hb with rfl | hb
    · exact Nat.lt_succ_self _
    · rw [List.mem_singleton.mp hb]; exact Nat.lt_succ_of_lt hlt
  · intro D oD C h' tk m' kvs news' zD dD F' N' o1 hn hC₀ hD₀ hCL hDL hCD offC fin
    refine ⟨m', hn, fun h'' hs'' => fin D oD h'' tk dD (F'.change hs'' hCL hC₀) (fun p hp => ?_) o1 zD⟩
    refine ⟨hs''.extBut _ _ ?_ (N' p hp).1, (N' p hp).2⟩
    rcases List.mem_cons.mp hp with rfl | hp
    · exact Ne.symm hCD
    · exact offC p hp
end
end Mine

open PySem PySem.W PySem.Calls PyProof.Rows
set_option Elab.async false
set_option linter.all false
set_option maxRecDepth 100000
set_option maxHeartbeats 40000000
namespace Mine
open PyProof.Rows.LCg
section
variable {prog : Program} {w : World} {A : Around} {E : Value → Shared → Prop} {s : Shared} {h₀ : Heap} {env : Env}
noncomputable def OffIK (I K : Addr) (l : List (Addr × Obj)) : Prop := ∀ p ∈ l, p.1 ≠ I ∧ p.1 ≠ K
noncomputable def FEnd (h₀ : Heap) (L : Addr) (s₁ : Shared) (I : Addr) (oI : Obj) (K : Addr) (S : List (Addr × Obj) → Prop) (rest : (Str → Option Value) → List (Addr × Obj) → Prop) (f : Flow) (s₂ : Shared) : Prop :=
  f = .next ∧ ∃ h' tk m' oK v' news', s₂ = { s₁ with heap := h', toks := tk } ∧ Fr h₀ L h' m' ∧ News h₀ L h' ((I, oI) :: (K, oK) :: news') ∧ oK.data = .cell v' ∧ OffIK I K news' ∧ S news' ∧ rest m' news'
noncomputable def FRest (prog : Program) (w : World) (A : Around) (E : Value → Shared → Prop) (h₀ : Heap) (env : Env) (body : List Stmt) (s : Shared) (K : Addr) (S : List (Addr × Obj) → Prop) (P : Nat → Value → Prop)
    (Fin : (Str → Option Value) → List (Addr × Obj) → Prop) : Nat → Nat → (Str → Option Value) → List (Addr × Obj) → Prop
  | 0, _, m, news => Fin m news
  | k + 1, i, m, news => ∀ v I oI oK h tk, P i v → oK.data = .cell (some v) → Fr h₀ env.locals h m → News h₀ env.locals h ((I, oI) :: (K, oK) :: news) → OffIK I K news → @Ne Nat I K →
      wpAny (model prog w) A (execs body env) (FEnd h₀ env.locals { s with heap := h, toks := tk } I oI K S (FRest prog w A E h₀ env body s K S P Fin k (i + 1))) E { s with heap := h, toks := tk }
inductive FC (prog : Program) (w : World) (A : Around) (E : Value → Shared → Prop) (h₀ : Heap) (env : Env) (body : List Stmt) (s : Shared) (K : Addr) (its : Array Value) (I ax : Addr) (n : Nat) (Fin : (Str → Option Value) → List (Addr × Obj) → Prop) (k : Nat) (s' : Shared) : Prop
  | mk (h' : Heap) (tk i : Nat) (m' : Str → Option Value) (oK' : Obj) (v' : Option Value) (news' : List (Addr × Obj)) (e : s' = { s with heap := h', toks := tk }) (hi : i ≤ n) (hk : k = n + 1 - i) (st : h'.IsListIter I ax i) (F : Fr h₀ env.locals h' m') (N : News h₀ env.locals h' ((K, oK') :: news')) (hd : oK'.data = .cell v')
      (off : OffIK I K news') (S : SrcAt h₀ ax its news') (R : FRest prog w A E h₀ env body s K (SrcAt h₀ ax its) (fun i v => its[i]? = some v) Fin (n - i) i m' news') : FC prog w A E h₀ env body s K its I ax n Fin k s'
theorem codeAny_forLoop_C {R : Result → Shared → Prop} {x : Str} {px : Pos} {body : List Stmt} {I K ax : Addr} {its : Array Value} {n : Nat} {m : Str → Option Value} {news : List (Addr × Obj)} {oK : Obj} {v₀ : Option Value}
    (hh : A.handled = none) (hn : n = its.size) (hx : env.kindOf x = some .cell) (hk : env.scope.kind = .function) (hc : env.cells.lookup x = some K) (hIK : I ≠ K) (hIL : env.locals ≠ I) (hKL : env.locals ≠ K) (hI₀ : h₀.get? I = none) (hK₀ : h₀.get? K = none) (hax : ax ≠ I) (_haxK : ax ≠ K)
    (hst : s.heap.IsListIter I ax 0) (F : Fr h₀ env.locals s.heap m) (N : News h₀ env.locals s.heap ((K, oK) :: news)) (hd : oK.data = .cell v₀) (off : OffIK I K news) (S : SrcAt h₀ ax its news)
    (hE : ∀ s' : Shared, ∀ e, E e s' → notedBy (model prog w) A env (fun e s' => R (.error e) s') e s')
    {Fin : (Str → Option Value) → List (Addr × Obj) → Prop} (turns : FRest prog w A E h₀ env body s K (SrcAt h₀ ax its) (fun i v => its[i]? = some v) Fin n 0 m news)
    (hfin : ∀ m' news', Fin m' news' → ∀ h tk oK v', oK.data = .cell v' → Fr h₀ env.locals h m' → News h₀ env.locals h ((K, oK) :: news') → (∀ p ∈ news', p.1 ≠ K) → R (.ok .next) { s with heap := h, toks := tk }) :
    codeAny (model prog w) A (.forLoop (.Name x px) (.ref I) body [] env) R s := by
  have W := Walks.list (prog := prog) (w := w) hh I ax hax its
  refine codeAny_forLoop
    (FC prog w A E h₀ env body s K its I ax n Fin) ?_ (n + 1)
    ⟨s.heap, s.toks, 0, m, oK, v₀, news, rfl, Nat.zero_le _, rfl, hst, F, N, hd, off, S, turns⟩
  rintro k s' ⟨h', tk, i, m', oK', v', news', rfl, hi, rfl, hst', F', N', hd', off', S', R'⟩
  have hl' : h'.IsList ax its := S'.list F'.keep (fun p hp => N' p (List.mem_cons_of_mem _ hp))
  by_cases hlt : i < n
  · obtain ⟨j, hj⟩ : ∃ j, n - i = j + 1 := ⟨n - i - 1, by lia⟩
    rw [hj] at R'
    refine W.item i _ _ _ (by lia) ⟨hst', hl'⟩ fun v h₂ tk₂ hPv hst₂ hk₂ => ?_
    have F₂ : Fr h₀ env.locals h₂ m' := fr_but F' hk₂ hIL hI₀
    have N₂ : News h₀ env.locals h₂ ((K, oK') :: news') := news_but N' hk₂ fun p hp => by
      rcases List.mem_cons.mp hp with rfl | hp
      · exact Ne.symm hIK
      · exact (off' p hp).1
    refine wpAny_assign_Name (wpAny_storeName_cell (c := K) hk hx hc ⟨oK', (N₂ _ List.mem_cons_self).1, hd'⟩ fun h₃ hn₃ hs₃ => ?_)
    obtain ⟨oI, heI, _⟩ := hst₂.1
    obtain ⟨oK₃, heK, hdK⟩ := hn₃
    have heI₃ : h₃.get? I = some oI := hs₃.extBut _ _ hIK heI
    have F₃ : Fr h₀ env.locals h₃ m' := F₂.change hs₃ (Ne.symm hKL) hK₀
    have N₃ : News h₀ env.locals h₃ ((I, oI) :: (K, oK₃) :: news') := fun p hp => by
      rcases List.mem_cons.mp hp with rfl | hp
      · exact ⟨heI₃, Ne.symm hIL, hI₀⟩
      · rcases List.mem_cons.mp hp with rfl | hp
        · exact ⟨heK, Ne.symm hKL, hK₀⟩
        · exact ⟨hs₃.extBut _ _ (off' p hp).2 (N₂ p (List.mem_cons_of_mem _ hp)).1, (N₂ p (List.mem_cons_of_mem _ hp)).2⟩
    refine wpAny_mono (R' v I oI oK₃ h₃ _ hPv hdK F₃ N₃ off' hIK) (fun f s₄ h₄ => ?_) (fun e s₄ h₄ => hE s₄ e h₄)
    obtain ⟨rfl, h₄, tk₄, m₄, oK₄, v₄, news₄, rfl, F₄, N₄, hd₄, off₄, S₄, R₄⟩ := h₄
    have zI := (N₄ (I, oI) List.mem_cons_self).1
    have it₄ : h₄.IsListIter I ax (i + 1) := by
      obtain ⟨o, q, r⟩ := hst₂.1
      rw [heI] at q; cases q
      exact ⟨oI, zI, r⟩
    refine ⟨n + 1 - (i + 1), by lia, h₄, tk₄, i + 1, m₄, oK₄, v₄, news₄, rfl, hlt, rfl, it₄, F₄, fun p hp => N₄ p (List.mem_cons_of_mem _ hp), hd₄, off₄, S₄, ?_⟩
    rw [show n - (i + 1) = j by lia]
    exact R₄
  · obtain rfl : i = n := Nat.le_antisymm hi (Nat.not_lt.mp hlt)
    rw [Nat.sub_self] at R'
    refine W.done _ _ _ (by rw [← hn]; exact ⟨hst', hl'⟩) fun h₂ tk₂ hk₂ => wpAny_execs_nil ?_
    exact hfin _ _ R' h₂ tk₂ oK' v' hd' (fr_but F' hk₂ hIL hI₀) (news_but N' hk₂ fun p hp => by
      rcases List.mem_cons.mp hp with rfl | hp
      · exact Ne.symm hIK
      · exact (off' p hp).1) fun p hp => (off' p hp).2
noncomputable def FSrc (prog : Program) (w : World) (A : Around) (E : Value → Shared → Prop) (h₀ : Heap) (env : Env) (body : List Stmt) (K : Addr) (Q : Flow → Shared → Prop) (xv : Value) (s₁ : Shared) : Prop :=
  ∃ ax its news oK v₀ m, xv = .ref ax ∧ A.handled = none ∧ Fr h₀ env.locals s₁.heap m ∧ News h₀ env.locals s₁.heap ((K, oK) :: news) ∧ oK.data = .cell v₀ ∧ (∀ p ∈ news, p.1 ≠ K) ∧ ax ≠ K ∧ SrcAt h₀ ax its news ∧
    ∀ s₂ : Shared, (∃ h, s₂ = { s₁ with heap := h }) → FRest prog w A E h₀ env body s₂ K (SrcAt h₀ ax its) (fun i v => its[i]? = some v) (fun m' news' => ∀ h tk oK v', oK.data = .cell v' → Fr h₀ env.locals h m' → News h₀ env.locals h ((K, oK) :: news') → (∀ p ∈ news', p.1 ≠ K) → Q .next { s₂ with heap := h, toks := tk }) its.size 0 m news
inductive Pull (K : Addr) (o : Obj) : List (Addr × Obj) → List (Addr × Obj) → Prop
  | head {r} : (∀ p ∈ r, p.1 ≠ K) → Pull K o ((K, o) :: r) r
  | tail {p l r} : p.1 ≠ K → Pull K o l r → Pull K o (p :: l) (p :: r)
theorem Pull.all {K : Addr} {o : Obj} : ∀ {l r : List (Addr × Obj)}, Pull K o l r → (∀ p ∈ (K, o) :: r, p ∈ l) ∧ ∀ p ∈ r, p.1 ≠ K
  | _, _, .head h => ⟨fun _ hp => hp, h⟩
  | _, _, .tail hp0 r => by
    obtain ⟨a, b⟩ := r.all
    refine ⟨fun p hp => ?_, fun p hp => ?_⟩
    · rcases List.mem_cons.mp hp with rfl | hp
      · exact .tail _ (a _ (.head _))
      · rcases List.mem_cons.mp hp with rfl | hp
        · exact .head _
        · exact .tail _ (a _ (.tail _ hp))
    · rcases List.mem_cons.mp hp with rfl | hp
      · exact hp0
      · exact b p hp
theorem FSrc.ledger {body : List Stmt} {K ax : Addr} {its : Array Value} {k : Nat} {Q : Flow → Shared → Prop} {s₁ : Shared} {all news : List (Addr × Obj)} {oK : Obj} {v₀ : Option Value} {m : Str → Option Value}
    (hh : A.handled = none) (F : Fr h₀ env.locals s₁.heap m) (N : News h₀ env.locals s₁.heap all) (U : Pull K oK all news) (hd : oK.data = .cell v₀) (hm : (ax, ({ cls := .type "list", data := .seq its k } : Obj)) ∈ news)
    (h : ∀ g, FRest prog w A E h₀ env body { s₁ with heap := g } K (SrcAt h₀ ax its) (fun i v => its[i]? = some v) (fun m' news' => ∀ h tk oK v', oK.data = .cell v' → Fr h₀ env.locals h m' → News h₀ env.locals h ((K, oK) :: news') → (∀ p ∈ news', p.1 ≠ K) → Q .next { s₁ with heap := h, toks := tk }) its.size 0 m news) :
    FSrc prog w A E h₀ env body K Q (.ref ax) s₁ :=
  ⟨ax, its, news, oK, v₀, m, rfl, hh, F, fun p hp => N p (U.all.1 p hp), hd, U.all.2, U.all.2 _ hm, .inr ⟨_, hm, rfl, _, rfl⟩, fun _ ⟨g, e⟩ => e ▸ h g⟩
theorem For_C {x : Str} {px pos : Pos} {iter : PySem.Expr} {body : List Stmt} {K : Addr} {Q : Flow → Shared → Prop} {m₀ : Str → Option Value} (_F : Fr h₀ env.locals s.heap m₀) (hx : env.kindOf x = some .cell) (hk : env.scope.kind = .function) (hc : env.cells.lookup x = some K)
    (h : wpAny (model prog w) A (eval iter env) (FSrc prog w A E h₀ env body K Q) E s)
    (hs : ∀ x, foldedSetIterable iter env x = pure x := by intro _; rfl) (hE : PassesOwn (model prog w) A env E := by passes_own) :
    wpAny (model prog w) A (exec (.For (.Name x px) iter body [] pos) env) Q E s := by
  refine wpAny_For (wpAny_mono h (fun xv s₁ h₁ => ?_) fun _ _ e => e) hs
  obtain ⟨ax, its, news, oK, v₀, m, rfl, hh, F, N, hd, offK, hax, S, turns⟩ := h₁
  have hl : s₁.heap.IsList ax its := S.list F.keep (fun p hp => N p (List.mem_cons_of_mem _ hp))
  have hlt : ax < s₁.heap.objs.size := by obtain ⟨_, e, _⟩ := hl; exact Heap.lt_size e
  refine wpAny_pyIter_list hl ?_
  have up : ∀ b o, s₁.heap.get? b = some o → (s₁.heap.push { cls := .type "list_iterator", data := .fields #[.ref ax, .int 0 0] }).get? b = some o := fun b o e => Heap.get?_push_of_some _ e
  have nK := N _ List.mem_cons_self
  exact codeAny_forLoop_C (R := fun r s' => match r with | .ok f => Q f s' | .error e => cameBackBy (model prog w) A env E e s') hh rfl hx hk hc (Nat.ne_of_gt (Heap.lt_size nK.1)) (Nat.ne_of_lt F.ns.lt) (Ne.symm nK.2.1) (next_is_new F) nK.2.2 (Nat.ne_of_lt hlt) hax ⟨_, Heap.get?_push_size _ rfl, rfl, rfl⟩
    (F.keeps up) (N.grown up) hd (fun p hp => ⟨Nat.ne_of_lt (Heap.lt_size (N p (List.mem_cons_of_mem _ hp)).1), offK p hp⟩) S (fun s' e he => hE e s' he) (turns _ ⟨_, rfl⟩) fun _ _ h => h
end
end Mine

open PySem PySem.W PySem.Calls PyProof.Rows
set_option Elab.async false
set_option linter.all false
set_option maxRecDepth 100000
set_option maxHeartbeats 40000000
namespace Mine
open LCg
noncomputable def PtO (w : World) (o : Obj) (f : Int → Int) : Prop := ∃ kvs, o.IsDictOf (PySem.intKind PR w) kvs ∧ ∀ u, 3 ≤ u → u < 7 → ∀ t0, ∃ t, (valueAt kvs u).getD (.int 0 t0) = .int (f u) t
inductive PtL (w0 : World) (f : Nat → Int → Int) : Nat → List Value → Led → Led → Prop
  | nil {l : Led} : PtL w0 f 0 [] l l
  | snoc {i : Nat} {ys : List Value} {l l1 : Led} {d : Addr} {o : Obj} : PtL w0 f i ys l l1 → PtO w0 o (f i) → (d == sysModules) = false → PtL w0 f (i + 1) (ys ++ [.ref d]) l ((d, o) :: l1)
structure DrI (i : Nat) (kvs : List (Int × Value)) (g : Int → Int) : Prop where
  b : ∀ u, -1000 ≤ g u ∧ g u ≤ 1000
  v : ∀ u, 3 ≤ u → u < 3 + (i : Int) → ∃ t, valueAt kvs u = some (.int (g u) t)
theorem DrI.zero : DrI 0 [] (fun _ => 0) := ⟨fun _ => ⟨by decide, by decide⟩, fun u h1 h2 => by lia⟩
theorem DrI.step {i : Nat} {kvs : List (Int × Value)} {g : Int → Int} (d : DrI i kvs g) {y : Int} {t : Tok} (h : -1000 ≤ y ∧ y ≤ 1000) : DrI (i + 1) (stored kvs (3 + (i : Int)) (.int y t)) (fun u => if u = 3 + (i : Int) then y else g u) := by
  refine ⟨fun u => ?_, fun u h1 h2 => ?_⟩
  · split
    · exact h
    · exact d.b u
  · rw [valueAt_stored]
    by_cases q : u = 3 + (i : Int)
    · rw [if_pos q, if_pos q]; exact ⟨t, rfl⟩
    · rw [if_neg q, if_neg q]; exact d.v u h1 (by lia)
inductive SubP (a b : Led) : Prop
  | mk (b' : Led) (p : b.Perm b') (q : a.Sublist b') : SubP a b
theorem SubP.own {c : Cx} {a b : Led} {m : Mp} {h : Heap} (s : SubP a b) (O : Own c b m h) : Own c a m h :=
  let ⟨_, p, q⟩ := s
  ⟨O.F, fun x hx => O.N x (p.mem_iff.mpr (q.mem hx)), ((p.pairwise_iff fun h => h.symm).mp O.nd).sublist q⟩
section
variable {w : World} {c : Cx} {l : Led} {m : Mp} {P : Value → Led → Mp → Prop} {PF : Flow → Led → Mp → Prop} {env : Env} {vx iter : PySem.Expr} {x : Str} {px kp pos : Pos} {scope : Scope} {cl : List (Str × Addr)} {body : List Stmt} {K : Addr}
theorem drest_of {s₂ : Shared} {h0 : Heap} {tk0 z : Nat} (e : s₂ = c.st h0 tk0) {S : Led → Prop} {Pi : Nat → Value → Prop} {kf : Nat → Int} {Inv : Nat → List (Int × Value) → Led → Prop} {Fin : List (Int × Value) → Led → Prop} {n : Nat}
    (turn : ∀ i v I oI C oC D oD kvs l1 m₂, Pi i v → Inv i kvs l1 → NsObj oC m₂ → m₂ x = some v → oD.IsDictOf (PySem.intKind PR w) kvs → oI.cls ≠ .type "tuple" →
      J w c ((I, oI) :: (C, oC) :: (D, oD) :: l1) m (eval vx (compEnvC scope cl C env)) (fun y l2 m2 => m2 = m ∧ ∃ l3, SubP ((I, oI) :: (C, oC) :: (D, oD) :: l3) l2 ∧ S l3 ∧ Inv (i + 1) (stored kvs (kf i) y) l3))
    (fin : ∀ kvs l1, Nd l1 → Inv n kvs l1 → Fin kvs l1) : ∀ (k i : Nat) (kvs : List (Int × Value)) (l1 : Led), i + k = n → Nd l1 → Inv i kvs l1 → DRest (PySem.intKind PR w) c.A c.g c.L (lk m) env vx x scope cl s₂ S Pi kf z Fin k i kvs l1 := by
  subst e
  intro k
  induction k with
  | zero => intro i kvs l1 e nd inv; exact fin kvs l1 nd (by rw [← e]; exact inv)
  | succ k ih =>
    intro i kvs l1 e nd inv v I oI C oC D oD m₂ h tk E' hP ns hx hd F N off ne _ nt
    refine wpAny_mono (J.run (turn i v I oI C oC D oD kvs l1 m₂ hP inv ns hx hd nt) ⟨F, N, nd_off3 nd off ne⟩ ?_) (fun _ _ h => h) fun _ _ e => False.elim e
    rintro y l2 m2 h2 tk2 O2 ⟨rfl, l3, sub, hS, inv'⟩
    have O3 := sub.own O2
    have n3 : Nd ((I, oI) :: (C, oC) :: (D, oD) :: l3) := O3.nd
    exact ⟨h2, tk2, l3, rfl, O2.F, O3.N, off3_nd n3, hS, ih (i + 1) _ l3 (by lia) (List.pairwise_cons.mp (List.pairwise_cons.mp (List.pairwise_cons.mp n3).2).2).2 inv'⟩
inductive KDcomp (w : World) (c : Cx) (m : Mp) (P : Value → Led → Mp → Prop) (env : Env) (vx : PySem.Expr) (x : Str) (scope : Scope) (cl : List (Str × Addr)) (kf : Nat → Int) (Inv : Nat → List (Int × Value) → Led → Prop) (xv : Value) (l : Led) (m' : Mp) : Prop
  | mk (em : m' = m) (ax : Addr) (its : Array Value) (n0 : Nat) (e : xv = .ref ax) (src : (ax, lsO its n0) ∈ l) (hz : its.size ≤ sizeLine) (hk : ∀ i v, its[i]? = some v → (PySem.intKind PR w).is (kf i) v = true) (inv : Inv 0 [] l)
      (turn : ∀ i v I oI C oC D oD kvs l1 m₂, its[i]? = some v → Inv i kvs l1 → NsObj oC m₂ → m₂ x = some v → oD.IsDictOf (PySem.intKind PR w) kvs → oI.cls ≠ .type "tuple" →
        J w c ((I, oI) :: (C, oC) :: (D, oD) :: l1) m (eval vx (compEnvC scope cl C env)) (fun y l2 m2 => m2 = m ∧ ∃ l3, SubP ((I, oI) :: (C, oC) :: (D, oD) :: l3) l2 ∧ (ax, lsO its n0) ∈ l3 ∧ Inv (i + 1) (stored kvs (kf i) y) l3))
      (fin : ∀ kvs D oD l1, (∀ p ∈ l, @LT.lt Nat _ p.1 D) → Inv its.size kvs l1 → oD.IsDictOf (PySem.intKind PR w) kvs → P (.ref D) ((D, oD) :: l1) m) : KDcomp w c m P env vx x scope cl kf Inv xv l m'
theorem J.dcomp (Rh : c.A.handled = none) (kf : Nat → Int) (Inv : Nat → List (Int × Value) → Led → Prop) (hclos : closureFor scope env = pure cl)
    (k : J w c l m (eval iter env) (KDcomp w c m P env vx x scope cl kf Inv))
    (hcell : autoParam (∀ y ∈ scope.names, y.2 ≠ .cell) Mine.aT5._auto_1) (hkind : autoParam (scope.kind = .function) Mine.aT3._auto_1) (hnames : autoParam (∀ y ∈ scope.names, y.2 = .local → scope.names.lookup y.1 = some .local) Mine.aT5._auto_1) (hx : autoParam (scope.names.lookup x = some .local) Mine.aT3._auto_1)
    (hdb : autoParam ((x == ("__debug__" : Str)) = false) Mine.aT5._auto_1) (hs : autoParam (∀ x, foldedSetIterable iter env x = pure x) Mine.aT9._auto_1) : J w c l m (eval (.DictComp (.Name x kp) vx [⟨.Name x px, iter, [], 0⟩] scope pos) env) P := fun h0 tk0 O0 => by
  refine DictComp_U (PySem.intKind PR w) O0.F hclos hcell hkind hnames hx hdb (J.run k O0 ?_) hs
  rintro xv l m h tk O ⟨rfl, ax, its, n0, rfl, src, hz, hkf, inv, turn, fin⟩
  refine DSrc.ledger kf Rh O.F O.N src hz hkf fun g z lz => ?_
  have fin' : ∀ kvs l1, Nd l1 → Inv its.size kvs l1 → FinD (PySem.intKind PR w) c.g c.L (lk m) (c.st g tk) (Post c P) z kvs l1 := fun kvs l1 nd inv D oD h' tk' hd F' N' o1 zD => ⟨_, _, _, _, rfl, ⟨F', N', nd_off1 nd o1⟩, fin kvs D oD l1 (fun p hp => Nat.lt_of_lt_of_le (lz p hp) zD) inv hd⟩
  exact drest_of (h0 := g) (tk0 := tk) rfl (fun i v I oI C oC D oD kvs l1 m₂ a b c d e f => (turn i v I oI C oC D oD kvs l1 m₂ a b c d e f).mono fun y l2 m2 ⟨e1, l3, e2, e3, e4⟩ => ⟨e1, l3, e2, .inr ⟨_, e3, rfl, _, rfl⟩, e4⟩) fin' its.size 0 [] l (Nat.zero_add _) O.nd inv
theorem prest_of {elt : PySem.Expr} {s₂ : Shared} {h0 : Heap} {tk0 : Nat} (e : s₂ = c.st h0 tk0) {S : Led → Prop} {Pi : Nat → Value → Prop} {Inv : Nat → List Value → Led → Prop} {Fin : List Value → Led → Prop} {n : Nat}
    (turn : ∀ i v I oI C oC D ys l1 m₂, Pi i v → Inv i ys l1 → NsObj oC m₂ → m₂ x = some v →
      J w c ((I, oI) :: (C, oC) :: (D, lst ys) :: l1) m (eval elt (compEnvC scope cl C env)) (fun y l2 m2 => m2 = m ∧ ∃ l3, SubP ((I, oI) :: (C, oC) :: (D, lst ys) :: l3) l2 ∧ S l3 ∧ Inv (i + 1) (ys ++ [y]) l3))
    (fin : ∀ ys l1, Nd l1 → Inv n ys l1 → Fin ys l1) : ∀ (k i : Nat) (ys : List Value) (l1 : Led), i + k = n → Nd l1 → Inv i ys l1 → CompRest PR w c.A c.g c.L (lk m) env elt x scope cl s₂ S Pi Fin k i ys l1 := by
  subst e
  intro k
  induction k with
  | zero => intro i ys l1 e nd inv; exact fin ys l1 nd (by rw [← e]; exact inv)
  | succ k ih =>
    intro i ys l1 e nd inv v I oI C oC D m₂ h tk E' hP ns hx F N off ne
    refine wpAny_mono (J.run (turn i v I oI C oC D ys l1 m₂ hP inv ns hx) ⟨F, N, nd_off3 nd off ne⟩ ?_) (fun _ _ h => h) fun _ _ e => False.elim e
    rintro y l2 m2 h2 tk2 O2 ⟨rfl, l3, sub, hS, inv'⟩
    have O3 := sub.own O2
    have n3 : Nd ((I, oI) :: (C, oC) :: (D, lst ys) :: l3) := O3.nd
    exact ⟨h2, tk2, l3, rfl, O2.F, O3.N, off3_nd n3, hS, ih (i + 1) _ l3 (by lia) (List.pairwise_cons.mp (List.pairwise_cons.mp (List.pairwise_cons.mp n3).2).2).2 inv'⟩
inductive KCompP (w : World) (c : Cx) (m : Mp) (P : Value → Led → Mp → Prop) (env : Env) (elt : PySem.Expr) (x : Str) (scope : Scope) (cl : List (Str × Addr)) (Inv : Nat → List Value → Led → Prop) (xv : Value) (l : Led) (m' : Mp) : Prop
  | mk (em : m' = m) (ax : Addr) (its : Array Value) (n0 : Nat) (e : xv = .ref ax) (src : (ax, lsO its n0) ∈ l) (hz : its.size ≤ sizeLine) (inv : Inv 0 [] l)
      (turn : ∀ i v I oI C oC D ys l1 m₂, its[i]? = some v → Inv i ys l1 → NsObj oC m₂ → m₂ x = some v →
        J w c ((I, oI) :: (C, oC) :: (D, lst ys) :: l1) m (eval elt (compEnvC scope cl C env)) (fun y l2 m2 => m2 = m ∧ ∃ l3, SubP ((I, oI) :: (C, oC) :: (D, lst ys) :: l3) l2 ∧ (ax, lsO its n0) ∈ l3 ∧ Inv (i + 1) (ys ++ [y]) l3))
      (fin : ∀ ys D l1, Inv its.size ys l1 → P (.ref D) ((D, lsO ys.toArray ys.length) :: l1) m) : KCompP w c m P env elt x scope cl Inv xv l m'
theorem J.compP {elt : PySem.Expr} (Rh : c.A.handled = none) (Inv : Nat → List Value → Led → Prop) (hclos : closureFor scope env = pure cl)
    (k : J w c l m (eval iter env) (KCompP w c m P env elt x scope cl Inv))
    (hcell : autoParam (∀ y ∈ scope.names, y.2 ≠ .cell) Mine.aT5._auto_1) (hkind : autoParam (scope.kind = .function) Mine.aT3._auto_1) (hnames : autoParam (∀ y ∈ scope.names, y.2 = .local → scope.names.lookup y.1 = some .local) Mine.aT5._auto_1) (hx : autoParam (scope.names.lookup x = some .local) Mine.aT3._auto_1)
    (hs : autoParam (∀ x, foldedSetIterable iter env x = pure x) Mine.aT9._auto_1) : J w c l m (eval (.ListComp elt [⟨.Name x px, iter, [], 0⟩] scope pos) env) P := fun h0 tk0 O0 => by
  refine ListComp_U O0.F hclos hcell hkind hnames hx (J.run k O0 ?_) hs
  rintro xv l m h tk O ⟨rfl, ax, its, n0, rfl, src, hz, inv, turn, fin⟩
  refine .inl ⟨ax, its, l, rfl, Rh, O.F, O.N, .inr ⟨_, src, rfl, _, rfl⟩, hz, ?_⟩
  rintro s₂ ⟨g, rfl⟩
  have fin' : ∀ ys l1, Nd l1 → Inv its.size ys l1 → FinE c.g c.L (lk m) (c.st g tk) (Post c P) ys l1 := fun ys l1 nd inv D h' tk' F' N' o1 => ⟨_, _, _, _, rfl, ⟨F', N', nd_off1 nd o1⟩, fin ys D l1 inv⟩
  exact prest_of (h0 := g) (tk0 := tk) rfl (fun i v I oI C oC D ys l1 m₂ a b d e => (turn i v I oI C oC D ys l1 m₂ a b d e).mono fun y l2 m2 ⟨e1, l3, e2, e3, e4⟩ => ⟨e1, l3, e2, .inr ⟨_, e3, rfl, _, rfl⟩, e4⟩) fin' its.size 0 [] l (Nat.zero_add _) O.nd inv
theorem nd_ik {I K : Addr} {oI oK : Obj} {l : Led} (nd : Nd l) (o : OffIK I K l) (ne : @Ne Nat I K) : Nd ((I, oI) :: (K, oK) :: l) := by
  refine List.pairwise_cons.mpr ⟨fun q hq => ?_, List.pairwise_cons.mpr ⟨fun q hq => (o q hq).2.symm, nd⟩⟩
  rcases List.mem_cons.mp hq with rfl | hq
  · exact ne
  · exact (o q hq).1.symm
theorem frest_of {s₂ : Shared} {h0 : Heap} {tk0 : Nat} (e : s₂ = c.st h0 tk0) (eL : env.locals = c.L) {S : Led → Prop} {Pi : Nat → Value → Prop} {Inv : Nat → Led → Mp → Prop} {Fin : (Str → Option Value) → Led → Prop} {n : Nat}
    (turn : ∀ i v I oI oK l1 m1, Pi i v → Inv i l1 m1 → oK.data = .cell (some v) →
      J w c ((I, oI) :: (K, oK) :: l1) m1 (execs body env) (fun fl l2 m2 => fl = .next ∧ ∃ oK' v' l3, SubP ((I, oI) :: (K, oK') :: l3) l2 ∧ oK'.data = .cell v' ∧ S l3 ∧ Inv (i + 1) l3 m2))
    (fin : ∀ m1 l1, Nd l1 → Inv n l1 m1 → Fin (lk m1) l1) : ∀ (k i : Nat) (m1 : Mp) (l1 : Led), i + k = n → Nd l1 → Inv i l1 m1 → FRest PR w c.A noE c.g env body s₂ K S Pi Fin k i (lk m1) l1 := by
  subst e
  intro k
  induction k with
  | zero => intro i m1 l1 e nd inv; exact fin m1 l1 nd (by rw [← e]; exact inv)
  | succ k ih =>
    intro i m1 l1 e nd inv v I oI oK h tk hP hd F N off ne
    rw [eL] at F N ⊢
    refine J.run (turn i v I oI oK l1 m1 hP inv hd) ⟨F, N, nd_ik nd off ne⟩ ?_
    rintro fl l2 m2 h2 tk2 O2 ⟨rfl, oK', v', l3, sub, hd', hS, inv'⟩
    have O3 := sub.own O2
    have n3 : Nd ((I, oI) :: (K, oK') :: l3) := O3.nd
    have n1 := List.pairwise_cons.mp n3
    have n2 := List.pairwise_cons.mp n1.2
    exact ⟨rfl, h2, tk2, lk m2, oK', v', l3, rfl, O2.F, O3.N, hd', fun p hp => ⟨(n1.1 p (.tail _ hp)).symm, (n2.1 p hp).symm⟩, hS, ih (i + 1) m2 l3 (by lia) n2.2 inv'⟩
inductive KForC (w : World) (c : Cx) (PF : Flow → Led → Mp → Prop) (env : Env) (body : List Stmt) (K : Addr) (Inv : Nat → Led → Mp → Prop) (xv : Value) (l : Led) (m : Mp) : Prop
  | mk (ax : Addr) (its : Array Value) (n0 : Nat) (oK : Obj) (v0 : Option Value) (l0 : Led) (e : xv = .ref ax) (pm : l.Perm ((K, oK) :: l0)) (hd : oK.data = .cell v0) (src : (ax, lsO its n0) ∈ l0) (inv : Inv 0 l0 m)
      (turn : ∀ i v I oI oK l1 m1, its[i]? = some v → Inv i l1 m1 → oK.data = .cell (some v) →
        J w c ((I, oI) :: (K, oK) :: l1) m1 (execs body env) (fun fl l2 m2 => fl = .next ∧ ∃ oK' v' l3, SubP ((I, oI) :: (K, oK') :: l3) l2 ∧ oK'.data = .cell v' ∧ (ax, lsO its n0) ∈ l3 ∧ Inv (i + 1) l3 m2))
      (fin : ∀ l1 m1 oK v, Inv its.size l1 m1 → oK.data = .cell v → PF .next ((K, oK) :: l1) m1) : KForC w c PF env body K Inv xv l m
theorem J.forC {N : Nat} (he : EnvX c env) (R : Rm c N) (hc : env.cells.lookup x = some K) (Inv : Nat → Led → Mp → Prop)
    (k : J w c l m (eval iter env) (KForC w c PF env body K Inv))
    (hx : autoParam (env.kindOf x = some .cell) Mine.aT3._auto_1) (hs : autoParam (∀ x, foldedSetIterable iter env x = pure x) Mine.aT9._auto_1) : J w c l m (exec (.For (.Name x px) iter body [] pos) env) PF := fun h0 tk0 O0 => by
  obtain ⟨cn, cs, aa, ccd, ccl, rfl, hk⟩ := he
  obtain ⟨dp, un, fr, gd, eA, _⟩ := R
  refine For_C (m₀ := lk m) O0.F hx hk hc (J.run k O0 ?_) hs (by passes_own)
  rintro xv l m h tk O ⟨ax, its, n0, oK, v0, l0, rfl, pm, hd, src, inv, turn, fin⟩
  have O1 : Own c ((K, oK) :: l0) m h := ⟨O.F, fun p hp => O.N p (pm.mem_iff.mpr hp), (pm.pairwise_iff fun h => h.symm).mp O.nd⟩
  have n1 := List.pairwise_cons.mp O1.nd
  refine FSrc.ledger (by rw [eA]) O1.F O1.N (.head fun p hp => (n1.1 p hp).symm) hd src fun g => ?_
  exact frest_of (h0 := g) (tk0 := tk) rfl rfl (fun i v I oI oK l1 m1 a b d => (turn i v I oI oK l1 m1 a b d).mono fun fl l2 m2 ⟨e1, oK', v', l3, e2, e3, e4, e5⟩ => ⟨e1, oK', v', l3, e2, e3, .inr ⟨_, e4, rfl, _, rfl⟩, e5⟩)
    (fun m1 l1 nd inv h' tk' oK' v' hd' F' N' off => ⟨_, _, _, _, rfl, ⟨F', N', List.pairwise_cons.mpr ⟨fun q hq => (off q hq).symm, nd⟩⟩, fin l1 m1 oK' v' inv hd'⟩) its.size 0 m l0 (Nat.zero_add _) n1.2 inv
theorem PtL.inv {f : Nat → Int → Int} {i : Nat} {ys : List Value} {l l1 : Led} (h : PtL w f (i + 1) ys l l1) : ∃ ys' d o l1', ys = ys' ++ [.ref d] ∧ l1 = (d, o) :: l1' ∧ PtL w f i ys' l l1' ∧ PtO w o (f i) ∧ (d == sysModules) = false := by
  cases h with | snoc h q s => exact ⟨_, _, _, _, rfl, rfl, h, q, s⟩
inductive KFour (w : World) (f : Nat → Int → Int) (ys : List Value) (l l1 : Led) : Prop
  | mk (p1 p2 p3 p4 : Addr) (o1 o2 o3 o4 : Obj) (e1 : ys = [.ref p1, .ref p2, .ref p3, .ref p4]) (e2 : l1 = (p4, o4) :: (p3, o3) :: (p2, o2) :: (p1, o1) :: l) (po : PtO w o1 (f 0) ∧ PtO w o2 (f 1) ∧ PtO w o3 (f 2) ∧ PtO w o4 (f 3))
      (so : (p1 == sysModules) = false ∧ (p2 == sysModules) = false ∧ (p3 == sysModules) = false ∧ (p4 == sysModules) = false) : KFour w f ys l l1
theorem PtL.four {f : Nat → Int → Int} {ys : List Value} {l l1 : Led} (h : PtL w f 4 ys l l1) : KFour w f ys l l1 := by
  obtain ⟨_, _, _, _, rfl, rfl, h, q4, s4⟩ := h.inv
  obtain ⟨_, _, _, _, rfl, rfl, h, q3, s3⟩ := h.inv
  obtain ⟨_, _, _, _, rfl, rfl, h, q2, s2⟩ := h.inv
  obtain ⟨_, _, _, _, rfl, rfl, h, q1, s1⟩ := h.inv
  have e : ∀ {i : Nat} {ys : List Value} {l l1 : Led}, PtL w f i ys l l1 → i = 0 → ys = [] ∧ l1 = l := fun h z => by cases h with | nil => exact ⟨rfl, rfl⟩ | snoc => cases z
  obtain ⟨rfl, rfl⟩ := e h rfl
  exact ⟨_, _, _, _, _, _, _, _, rfl, rfl, ⟨q1, q2, q3, q4⟩, ⟨s1, s2, s3, s4⟩⟩
theorem J.ptmethM {a : Addr} {o : Obj} {f : Int → Int} {pl : PySem.Sem Bool} {PM : Value × List Value → Led → Mp → Prop} (hm : (a, o) ∈ l) (p : PtO w o f) (h : PM (.builtin "dict.get", [.ref a]) l m) : J w c l m (getMethod (.ref a) (Str.ofString "get") pl) PM := by
  intro hh tk O
  obtain ⟨kvs, hd, _⟩ := p
  have hD : hh.DictOf (PySem.intKind PR w) a kvs := Heap.dictOf_iff.mpr ⟨o, (O.N _ hm).1, hd⟩
  exact getMethod_builtin hD.typeIs PySem.F.plainAttrs_dict PySem.F.slot_dict_get PySem.F.type_dict_get hD.mapOf.noDict ⟨_, _, _, _, rfl, O, h⟩
theorem J.ptgetM {a : Addr} {o : Obj} {f : Int → Int} {u : Int} {tk t0 : Tok} (hm : (a, o) ∈ l) (p : PtO w o f) (lo : (a == sysModules) = false) (h3 : 3 ≤ u) (h7 : u < 7) (h : ∀ t, P (.int (f u) t) l m) : J w c l m (PySem.call (.builtin "dict.get") [.ref a, .int u tk, .int 0 t0]) P := fun hh _ O => by
  obtain ⟨kvs, hd, hv⟩ := p
  obtain ⟨t, ht⟩ := hv u h3 h7 t0
  have hD : hh.DictOf (PySem.intKind PR w) a kvs := Heap.dictOf_iff.mpr ⟨o, (O.N _ hm).1, hd⟩
  exact call_meetsIn PySem.F.slot_dict_get hD.typeIs PySem.F.entry_dict_get (PySem.F.args_dict_get_3 _ _ _) (meets_dict_get_default (PySem.intKind PR w) a (intKind_is _ _ _ _) lo _) ⟨_, hD.mapOf, by rw [ht]; exact ⟨_, _, _, _, rfl, O, h t⟩⟩
theorem PtO.nt {o : Obj} {f : Int → Int} (p : PtO w o f) : NotTup o := let ⟨_, d, _⟩ := p; .dict d
theorem PtL.mem {f : Nat → Int → Int} {i : Nat} {ys : List Value} {l l1 : Led} (h : PtL w f i ys l l1) : ∀ p ∈ l, p ∈ l1 := by
  induction h with
  | nil => exact fun _ h => h
  | snoc _ _ _ ih => exact fun p hp => .tail _ (ih p hp)
theorem PtO.one {o : Obj} {k : Int} {t : Tok} (d : o.IsDictOf (PySem.intKind PR w) [(k, .int 1 t)]) : PtO w o (fun u => if u = k then 1 else 0) := by
  refine ⟨_, d, fun u _ _ t0 => ?_⟩
  by_cases q : u = k
  · subst q; exact ⟨t, by simp [valueAt]⟩
  · exact ⟨t0, by simp [valueAt, q, Ne.symm q]⟩
inductive KPtE (w : World) (m : Mp) (f : Int → Int) (l0 : Led) (y : Value) (l2 : Led) (m2 : Mp) : Prop
  | mk (em : m2 = m) (d : Addr) (o : Obj) (ey : y = .ref d) (el : l2 = (d, o) :: l0) (po : PtO w o f) (lo : (d == sysModules) = false) : KPtE w m f l0 y l2 m2
inductive KCompPt (w : World) (c : Cx) (l : Led) (m : Mp) (P : Value → Led → Mp → Prop) (env : Env) (elt : PySem.Expr) (x : Str) (scope : Scope) (cl : List (Str × Addr)) (f : Nat → Int → Int) (xv : Value) (l' : Led) (m' : Mp) : Prop
  | mk (em : m' = m) (el : l' = l) (ax : Addr) (its : Array Value) (n0 : Nat) (e : xv = .ref ax) (src : (ax, lsO its n0) ∈ l) (hz : its.size ≤ sizeLine)
      (turn : ∀ i v I oI C oC D ys l1 m₂, its[i]? = some v → NsObj oC m₂ → m₂ x = some v → J w c ((I, oI) :: (C, oC) :: (D, lst ys) :: l1) m (eval elt (compEnvC scope cl C env)) (KPtE w m (f i) ((I, oI) :: (C, oC) :: (D, lst ys) :: l1)))
      (fin : ∀ ys D l1, PtL w f its.size ys l l1 → P (.ref D) ((D, lsO ys.toArray ys.length) :: l1) m) : KCompPt w c l m P env elt x scope cl f xv l' m'
theorem J.compPt {elt : PySem.Expr} (Rh : c.A.handled = none) (f : Nat → Int → Int) (hclos : closureFor scope env = pure cl)
    (k : J w c l m (eval iter env) (KCompPt w c l m P env elt x scope cl f))
    (hcell : autoParam (∀ y ∈ scope.names, y.2 ≠ .cell) Mine.aT5._auto_1) (hkind : autoParam (scope.kind = .function) Mine.aT3._auto_1) (hnames : autoParam (∀ y ∈ scope.names, y.2 = .local → scope.names.lookup y.1 = some .local) Mine.aT5._auto_1) (hx : autoParam (scope.names.lookup x = some .local) Mine.aT3._auto_1)
    (hs : autoParam (∀ x, foldedSetIterable iter env x = pure x) Mine.aT9._auto_1) : J w c l m (eval (.ListComp elt [⟨.Name x px, iter, [], 0⟩] scope pos) env) P := by
  refine J.compP Rh (fun i ys l1 => PtL w f i ys l l1) hclos (k.mono ?_) hcell hkind hnames hx hs
  rintro xv l' m' ⟨rfl, rfl, ax, its, n0, rfl, src, hz, turn, fin⟩
  refine ⟨rfl, ax, its, n0, rfl, src, hz, .nil, fun i v I oI C oC D ys l1 m₂ hv inv ns hx => ?_, fin⟩
  refine (turn i v I oI C oC D ys l1 m₂ hv ns hx).mono ?_
  rintro y l2 m2 ⟨rfl, d, o, rfl, rfl, po, lo⟩
  exact ⟨rfl, (d, o) :: l1, ⟨_, (List.perm_middle (l₁ := [_, _, _])).symm, List.Sublist.refl _⟩, .tail _ (inv.mem _ src), .snoc inv po lo⟩
inductive KDrE (c : Cx) (m : Mp) (Z : Heap → Prop) (C : List Addr) (l0 : Led) (y : Value) (l2 : Led) (m2 : Mp) : Prop
  | mk (em : m2 = m) (y' : Int) (t : Tok) (D2 : Led) (ey : y = .int y' t) (hy : -1000 ≤ y' ∧ y' ≤ 1000) (el : l2 = l0 ++ D2) (T : TlD c Z C D2) : KDrE c m Z C l0 y l2 m2
inductive KDcompD (w : World) (c : Cx) (X0 D0 : Led) (m : Mp) (P : Value → Led → Mp → Prop) (env : Env) (vx : PySem.Expr) (x : Str) (scope : Scope) (cl : List (Str × Addr)) (W : Wd) (fe ce i0 : Nat) (ts : List Tm) (ns as rs : Array Value) (xv : Value) (l' : Led) (m' : Mp) : Prop
  | mk (em : m' = m) (el : l' = X0 ++ D0) (ax : Addr) (its : Array Value) (n0 : Nat) (e : xv = .ref ax) (src : (ax, lsO its n0) ∈ X0) (hz : its.size ≤ sizeLine) (hk : ∀ (i : Nat) v, its[i]? = some v → (PySem.intKind PR w).is (3 + (i : Int)) v = true)
      (turn : ∀ (i : Nat) v I oI C oC D oD D1 m₂, its[i]? = some v → NsObj oC m₂ → m₂ x = some v → NotTup oI → NotTup oC → NotTup oD → TlD c (Stg w W fe ce ⟨i0 + i, ⟨ts, ns, as, rs⟩⟩) (stgA W fe ce) D1 →
        J w c ((I, oI) :: (C, oC) :: (D, oD) :: (X0 ++ D1)) m (eval vx (compEnvC scope cl C env)) (KDrE c m (Stg w W fe ce ⟨i0 + (i + 1), ⟨ts, ns, as, rs⟩⟩) (stgA W fe ce) ((I, oI) :: (C, oC) :: (D, oD) :: X0)))
      (fin : ∀ g kvs D oD D1, (∀ p ∈ X0 ++ D0, @LT.lt Nat _ p.1 D) → DrI its.size kvs g → oD.IsDictOf (PySem.intKind PR w) kvs → TlD c (Stg w W fe ce ⟨i0 + its.size, ⟨ts, ns, as, rs⟩⟩) (stgA W fe ce) D1 → P (.ref D) ((D, oD) :: (X0 ++ D1)) m) : KDcompD w c X0 D0 m P env vx x scope cl W fe ce i0 ts ns as rs xv l' m'
theorem J.dcompD {W : Wd} {fe ce i0 : Nat} {ts : List Tm} {ns as rs : Array Value} {X0 D0 : Led} (Rh : c.A.handled = none) (T : TlD c (Stg w W fe ce ⟨i0, ⟨ts, ns, as, rs⟩⟩) (stgA W fe ce) D0) (hclos : closureFor scope env = pure cl)
    (k : J w c (X0 ++ D0) m (eval iter env) (KDcompD w c X0 D0 m P env vx x scope cl W fe ce i0 ts ns as rs))
    (hcell : autoParam (∀ y ∈ scope.names, y.2 ≠ .cell) Mine.aT5._auto_1) (hkind : autoParam (scope.kind = .function) Mine.aT3._auto_1) (hnames : autoParam (∀ y ∈ scope.names, y.2 = .local → scope.names.lookup y.1 = some .local) Mine.aT5._auto_1) (hx : autoParam (scope.names.lookup x = some .local) Mine.aT3._auto_1)
    (hdb : autoParam ((x == ("__debug__" : Str)) = false) Mine.aT5._auto_1) (hs : autoParam (∀ x, foldedSetIterable iter env x = pure x) Mine.aT9._auto_1) : J w c (X0 ++ D0) m (eval (.DictComp (.Name x kp) vx [⟨.Name x px, iter, [], 0⟩] scope pos) env) P := by
  refine J.dcomp Rh (fun i => 3 + (i : Int)) (fun i kvs l1 => ∃ D1 g, l1 = X0 ++ D1 ∧ TlD c (Stg w W fe ce ⟨i0 + i, ⟨ts, ns, as, rs⟩⟩) (stgA W fe ce) D1 ∧ DrI i kvs g) hclos (k.mono ?_) hcell hkind hnames hx hdb hs
  rintro xv l' m' ⟨rfl, rfl, ax, its, n0, rfl, src, hz, hk, turn, fin⟩
  refine ⟨rfl, ax, its, n0, rfl, List.mem_append_left _ src, hz, hk, ⟨D0, _, rfl, T, .zero⟩, ?_, ?_⟩
  · rintro i v I oI C oC D oD kvs l1 m₂ hv ⟨D1, g, rfl, T1, dr⟩ ns hx hd nt
    refine (turn i v I oI C oC D oD D1 m₂ hv ns hx (.inl nt) ?_ (.dict hd) T1).mono ?_
    · obtain ⟨es, ep, e, _⟩ := ns
      exact .inr fun xs n q => by rw [e] at q; cases q
    rintro y l2 m2 ⟨rfl, y', t, D2, rfl, hy, rfl, T2⟩
    exact ⟨rfl, _, ⟨_, .refl _, List.Sublist.refl _⟩, List.mem_append_left _ src, D2, _, rfl, T2, dr.step hy⟩
  · rintro kvs D oD l1 lt ⟨D1, g, rfl, T1, dr⟩ hd
    exact fin g kvs D oD D1 lt dr hd T1
theorem PtO.congr {o : Obj} {f g : Int → Int} (p : PtO w o f) (h : ∀ u, 3 ≤ u → u < 7 → f u = g u) : PtO w o g :=
  let ⟨kvs, d, hv⟩ := p
  ⟨kvs, d, fun u h1 h2 t0 => h u h1 h2 ▸ hv u h1 h2 t0⟩
end
theorem perm12 {α : Type} {a1 a2 a3 a4 a5 a6 a7 a8 a9 a10 a11 a12 : α} {r : List α} : (a1 :: a2 :: a3 :: a4 :: a5 :: a6 :: a7 :: a8 :: a9 :: a10 :: a11 :: a12 :: r).Perm (a12 :: ([a11, a5, a6, a7, a8, a9, a10, a4, a3, a2] ++ (a1 :: r))) := by
  have h : ([a1, a2, a3, a4] ++ ([a5, a6, a7, a8, a9, a10] ++ [a11, a12])).Perm (([a12, a11] ++ [a5, a6, a7, a8, a9, a10]) ++ [a4, a3, a2, a1]) :=
    List.perm_append_comm.trans (List.Perm.append (List.perm_append_comm.trans (List.Perm.append_right _ (List.reverse_perm [a12, a11]))) (List.reverse_perm [a4, a3, a2, a1]))
  exact h.append_right r
end Mine

open PySem PySem.W PySem.Calls PyProof.Rows
set_option Elab.async false
set_option linter.all false
set_option maxRecDepth 100000
set_option maxHeartbeats 40000000
namespace Mine
theorem WrlAt.laterX {w : World} {V : Vd} {i z : Nat} {ts : List Tm} {wt : Int → Option (Nat → Int)} {bl : Int → Option (List Int)} {o : WObj} {h h' : Heap} (Z : WrlAt w V i z ts wt bl o h) (k : SeqKeep V.off h h') (ex : ExAt V h') (a : ∀ p ∈ o.led w V, h'.get? p.1 = some p.2) : WrlAt w V i z ts wt bl o h' := by
  have tk : TupKeep h h' := by
    intro b ob xs n e hc hd
    refine k b ob xs n (fun q => ?_) hd e
    rcases List.mem_cons.mp q with rfl | q
    · obtain ⟨_, vs, n, ex⟩ := Z.ex
      rw [ex] at e; cases e
      exact absurd hc (by simp)
    · have : b ∈ (o.led w V).map (·.1) := q
      obtain ⟨p, hp, rfl⟩ := List.mem_map.mp this
      have h1 := Z.at_ p hp
      rw [h1] at e; cases e
      rcases Z.nt p hp with h2 | h2
      · exact h2 hc
      · exact h2 _ _ hd
  have b := a
  simp only [WObj.led, List.forall_mem_cons] at b
  obtain ⟨a1, a2, a3, a4, a5, a6, a7, a8, a9, a10, a11, a12, a13, _⟩ := b
  exact ⟨Z.core.tup tk a3 a4 a5 a6 a7, Z.cells, Z.feed, Z.d1, Z.d2, Z.d3, Z.wtAt.keepsX k, Z.blAt.keepsX k, Z.l2, Z.l3, ex, a⟩
structure WlD (w : World) (c : Cx) (V : Vd) (i z : Nat) (σ : Sg) (D0 D : Led) : Prop where
  at_ : ∀ h l m, Own c l m h → (∀ p ∈ D, p ∈ l) → ExAt V h → WS w V i z σ h
  has : ∀ a ∈ V.all, ∃ o, (a, o) ∈ D
  fix : ∀ a ∈ V.all, a ∉ V.mut → ∀ o, (a, o) ∈ D → (a, o) ∈ D0
theorem WlD.hi {w : World} {c : Cx} {V : Vd} {i z : Nat} {σ : Sg} {D0 D l : Led} {m : Mp} {h : Heap} (B : WlD w c V i z σ D0 D) (O : Own c l m h) (s : ∀ p ∈ D, p ∈ l) : ∀ a ∈ V.all, c.g.get? a = none := fun a ha => by
  obtain ⟨o, ho⟩ := B.has a ha
  exact (O.N _ (s _ ho)).2.2
theorem WlD.start {w : World} {c : Cx} {V : Vd} {i z : Nat} {σ : Sg} {o : WObj} {sh : Heap} (Z : WrlAt w V i z σ.ts σ.wt σ.bl o sh) (gs : ∀ b ob, b ∉ (o.led w V).map (·.1) → sh.get? b = some ob → c.g.get? b = some ob) : WlD w c V i z σ (o.led w V) (o.led w V) :=
  ⟨fun h l m O s _ => (Z.later (fun b ob xs n hb _ e => O.F.keep b ob (gs b ob hb e)) fun p hp => (O.N p (s p hp)).1).toWrl, fun a ha => by
    have ha : a ∈ (o.led w V).map (·.1) := ha
    obtain ⟨p, hp, rfl⟩ := List.mem_map.mp ha
    exact ⟨p.2, hp⟩, fun _ _ _ _ h => h⟩
theorem WlD.keep {w : World} {c : Cx} {V : Vd} {i z : Nat} {σ : Sg} {D0 D l : Led} {m : Mp} {h sh : Heap} (B : WlD w c V i z σ D0 D) (O : Own c l m h) (s : ∀ p ∈ D, p ∈ l) (h0 : ∀ p ∈ D0, sh.get? p.1 = some p.2) (e0 : D0.map (·.1) = V.all) (K : Keep (D0.map (·.1)) sh h) : Keep V.mut sh h := by
  intro b ob hb e
  by_cases q : b ∈ D0.map (·.1)
  · rw [e0] at q
    obtain ⟨o, ho⟩ := B.has b q
    have := h0 _ (B.fix b q hb o ho)
    rw [e] at this; cases this
    exact (O.N _ (s _ ho)).1
  · exact K b ob q e
theorem WlD.ws {w : World} {c : Cx} {V : Vd} {i z : Nat} {σ : Sg} {D0 D l : Led} {m : Mp} {h : Heap} (B : WlD w c V i z σ D0 D) (O : Own c l m h) (s : ∀ p ∈ D, p ∈ l) (x : ExAt V h) : WS w V i z σ h := B.at_ h l m O s x
theorem ExAt.own {V : Vd} {c : Cx} {l : Led} {m : Mp} {h : Heap} (x : ExAt V c.g) (O : Own c l m h) : ExAt V h := by
  obtain ⟨n, vs, k, e⟩ := x
  exact ⟨n, vs, k, O.F.keep _ _ e⟩
section
variable {w : World} {c : Cx} {l D D0 X : Led} {m : Mp} {P : Value → Led → Mp → Prop} {N : Nat} {V : Vd} {i z : Nat} {σ : Sg}
theorem J.world {t : PySem.Sem Value} {Res : Value → Heap → Nat → Nat → Sg → Prop} (n : Nat) (G : Gc w c) (R : Rm c N) (hN : n ≤ N) (B : WlD w c V i z σ D0 D) (kt : Kt D l X) (hX : ∀ p ∈ X, (∀ xs n, p.2.data ≠ .seq xs n) ∨ p.1 = V.exA) (ex : ∀ h m, Own c l m h → ExAt V h)
    (h : ∀ {mean mg mb} {dp un : Nat} {fr gd} (_ : Gd w mean mg mb c.g) (_ : Room dp un n) h tk (Q : Value → Shared → Prop), Own c l m h → WS w V i z σ h → (∀ a ∈ V.all, c.g.get? a = none) →
      (∀ v h' tk' i' z' σ', Keep V.mut h h' → WS w V i' z' σ' h' → Res v h' i' z' σ' → Q v (c.st h' tk')) → wpAny (model PR w) (AR dp un fr gd) t Q noE (c.st h tk))
    (k : ∀ v h' i' z' σ' R, Res v h' i' z' σ' → Bnd c.g c.L h' X R → WlD w c V i' z' σ' D0 R → P v (X ++ R) m) : J w c l m t P := by
  have s2 := kt.sub.2.1
  refine J.bnd (Res := fun v h' => ∃ i' z' σ', WS w V i' z' σ' h' ∧ Res v h' i' z' σ') n G R hN V.mut (fun a ha => B.has a (mut_all a ha)) kt
    (fun g r h1 tk Q O ret => h g r h1 tk Q O (B.at_ _ _ _ O s2 (ex _ _ O)) (B.hi O s2) fun v h' tk' i' z' σ' K Z' res => ret v h' tk' K ⟨i', z', σ', Z', res⟩) ?_
  rintro v h0 h' R O K ⟨i', z', σ', Z', res⟩ bd O'
  have inR : ∀ a ∈ V.all, ∀ o, h'.get? a = some o → (a, o) ∈ R := fun a ha o e => let ⟨_, hm⟩ := B.has a ha; bd.old kt O hm e
  obtain ⟨wo, Zat⟩ := Z'.toAt
  refine k v h' i' z' σ' R res bd ⟨fun h2 l2 m2 O2 s x => (Zat.laterX (fun b ob xs n hb hd e => ?_) x fun p hp => ?_).toWrl, fun a ha => ?_, fun a ha na o ho => ?_⟩
  · refine bd.seq O2.F O2.N s b ob xs n (fun q => ?_) hd e
    obtain ⟨p, hp, rfl⟩ := List.mem_map.mp q
    rw [(bd.at_ p hp).1] at e; cases e
    rcases hX p hp with r | r
    · exact r _ _ hd
    · exact hb (r ▸ .head _)
  · exact (O2.N _ (s _ (inR _ (List.mem_map_of_mem hp : p.1 ∈ (wo.led w V).map (·.1)) _ (Zat.at_ p hp)))).1
  · have ha : a ∈ (wo.led w V).map (·.1) := ha
    obtain ⟨p, hp, rfl⟩ := List.mem_map.mp ha
    exact ⟨_, inR _ (List.mem_map_of_mem hp : p.1 ∈ (wo.led w V).map (·.1)) _ (Zat.at_ p hp)⟩
  · obtain ⟨o', ho'⟩ := B.has a ha
    have e1 := K _ _ na (O.N _ (s2 _ ho')).1
    have e2 := (O'.N _ (List.mem_append_right _ ho)).1
    rw [e1] at e2; cases e2
    exact B.fix a ha na _ ho'
end
noncomputable def TupF (c : Cx) (D : Led) (a : Addr) (vs : List Value) : Prop := ∀ h l m, Own c l m h → (∀ p ∈ D, p ∈ l) → h.get? a = some (tupO vs)
noncomputable def NumsF (c : Cx) (D : Led) (lN : Addr) : Prop := ∃ vs n, (∀ h l m, Own c l m h → (∀ p ∈ D, p ∈ l) → h.get? lN = some (lsO vs n)) ∧ ∀ (j : Nat) (x : Int × Int), nums[j]? = some x → ∃ a t1 t2, vs[j]? = some (.ref a) ∧ TupF c D a [.int x.1 t1, .int x.2 t2]
theorem NumsF.of {c : Cx} {h' : Heap} {R : Led} {lN : Addr} (B : Bnd c.g c.L h' [] R) (n : NumsAt h' lN) : NumsF c R lN := by
  obtain ⟨vs, n, e, r⟩ := n
  refine ⟨vs, n, fun h l m O s => B.seq O.F O.N s _ _ _ _ List.not_mem_nil rfl e, fun j x hx => ?_⟩
  obtain ⟨a, t1, t2, e1, e2⟩ := r j x hx
  exact ⟨a, t1, t2, e1, fun h l m O s => B.tup O.F O.N s _ _ _ _ e2 rfl rfl⟩
theorem NumsF.at_ {c : Cx} {D l : Led} {lN : Addr} {m : Mp} {h : Heap} (n : NumsF c D lN) (O : Own c l m h) (s : ∀ p ∈ D, p ∈ l) : NumsAt h lN := by
  obtain ⟨vs, n, e, r⟩ := n
  refine ⟨vs, n, e h l m O s, fun j x hx => ?_⟩
  obtain ⟨a, t1, t2, e1, e2⟩ := r j x hx
  exact ⟨a, t1, t2, e1, e2 h l m O s⟩
theorem NumsAt.keeps {V : Vd} {w : World} {i z : Nat} {σ : Sg} {l : Addr} {h h' : Heap} (Z : WS w V i z σ h) (hl : l ∉ V.all) (n : NumsAt h l) (k : Keep V.mut h h') : NumsAt h' l := by
  obtain ⟨vs, n, e, r⟩ := n
  refine ⟨vs, n, k _ _ (fun q => hl (mut_all _ q)) e, fun j x hx => ?_⟩
  obtain ⟨a, t1, t2, e1, e2⟩ := r j x hx
  refine ⟨a, t1, t2, e1, k _ _ (fun q => ?_) e2⟩
  obtain ⟨o, Z⟩ := Z.toAt
  have : a ∈ (o.led w V).map (·.1) := mut_all _ q
  obtain ⟨p, hp, rfl⟩ := List.mem_map.mp this
  rw [Z.at_ p hp] at e2
  rcases Z.nt p hp with h2 | h2
  · rw [Option.some.inj e2] at h2; exact h2 rfl
  · rw [Option.some.inj e2] at h2; exact h2 _ _ rfl
theorem nums_whole {k : Int} {x : Int × Int} (h0 : 0 ≤ k) (h6 : k < 6) (e : nums[k.toNat]? = some x) : x.2 = 1 := by
  have : k = 0 ∨ k = 1 ∨ k = 2 ∨ k = 3 ∨ k = 4 ∨ k = 5 := by lia
  rcases this with rfl | rfl | rfl | rfl | rfl | rfl <;> cases e <;> rfl
structure Here (σ : Sg) (k : Int) (n M : Nat) : Prop where
  nn : NN σ k
  l : σ.lv k ≤ n
  m : σ.ms k ≤ M
noncomputable abbrev Ahead := Here
theorem Here.mono {base : Int} {pt : Nat → Int → Int} {σ σ' : Sg} {k : Int} {n M : Nat} (G : Grow base pt σ σ') (h : Here σ k n M) : Here σ' k n M :=
  ⟨h.nn.mono G.le, by rw [G.le.lv k h.nn.nw.hi]; exact h.l, by rw [G.le.ms k h.nn.nw.hi]; exact h.m⟩
theorem Grow.trans {base : Int} {pt : Nat → Int → Int} {σ σ' σ'' : Sg} (a : Grow base pt σ σ') (b : Grow base pt σ' σ'') : Grow base pt σ σ'' := ⟨b.sem, a.le.trans b.le⟩
theorem WS.more {w : World} {V : Vd} {i z z' : Nat} {σ : Sg} {h : Heap} (Z : WS w V i z σ h) (le : z ≤ z') : WS w V i z' σ h := Wrl.more Z le
section
variable {w : World} {c : Cx} {l D D0 : Led} {m : Mp} {P : Value → Led → Mp → Prop} {N : Nat} {V : Vd} {i z : Nat} {σ : Sg} {pt : Nat → Int → Int}
theorem J.witem {value slice : Expr} {x : Str} {t : Tok} {v : Value} (B : WlD w c V i z σ D0 D) (s : ∀ p ∈ D, p ∈ l) (ex : ExAt V c.g) (hl : lkv V.worldEs x = some v) (h : P v l m)
    (hs : autoParam (subscripted slice false (.ref V.woA) (.str x t) = operate [.ref V.woA, .str x t] (getItem (.ref V.woA) (.str x t))) Mine.aT4._auto_1) : J w c l m (subscriptTail value slice (.ref V.woA) (.str x t)) P := fun h0 tk O => by
  obtain ⟨_, _, o1, o2, o3, k2, k3, Z⟩ := B.ws O s (ex.own O)
  have hD : h0.DictOf (PySem.strKind PR w) V.woA V.worldEs := Heap.dictOf_iff.mpr ⟨o1, Z.wo, Z.d1⟩
  exact tail_any hD.typeIs slot_dict_getitem.lookup (wpAny_getItem_of (strKind_is _ _ _ _) hD.mapOf ((lkv_eq x V.worldEs).trans hl) ⟨_, _, _, _, rfl, O, h⟩) hs
theorem J.pickW {wide : Int} {t : Tok} (G : Gc w c) (R : Rm c N) (vok : V.Ok) (B : WlD w c V i z σ D0 D) (kt : Kt D l []) (ex : ExAt V c.g) (hi : i ≤ 900) (hw : 0 < wide ∧ wide ≤ 3000)
    (k : ∀ x t R, 0 ≤ x → x < wide → WlD w c V (i + 1) z σ D0 R → P (.int x t) R m) (hN : autoParam (3 ≤ N) Mine.aT2._auto_1) : J w c l m (PySem.call (.ref 758) [.ref V.feA, .int wide t]) P :=
  J.world (Res := fun v _ i' z' σ' => ∃ x t, v = .int x t ∧ 0 ≤ x ∧ x < wide ∧ i' = i + 1 ∧ z' = z ∧ σ' = σ) 3 G R hN B kt (fun _ h => nomatch h) (fun _ _ O => ex.own O)
    (fun g r h _ _ O Z hh ret => pick_sem g O.F.keep r V vok Z hh hi wide t hw fun x t h' tk' h0 h1 K Z' => ret _ _ _ _ _ _ K Z' ⟨x, t, rfl, h0, h1, rfl, rfl, rfl⟩)
    fun v h' i' z' σ' R ⟨x, t, e, h0, h1, e1, e2, e3⟩ _ B' => by subst e e1 e2 e3; exact k x t R h0 h1 B'
theorem J.numbersW (G : Gc w c) (R : Rm c N) (B : WlD w c V i z σ D0 D) (kt : Kt D l []) (ex : ExAt V c.g)
    (k : ∀ lN R, lN ∉ V.all → NumsF c R lN → WlD w c V i z σ D0 R → P (.ref lN) R m) (hN : autoParam (3 ≤ N) Mine.aT2._auto_1) : J w c l m (PySem.call (.ref 751) []) P :=
  J.world (Res := fun v h' i' z' σ' => ∃ lN, v = .ref lN ∧ lN ∉ V.all ∧ NumsAt h' lN ∧ i' = i ∧ z' = z ∧ σ' = σ) 3 G R hN B kt (fun _ h => nomatch h) (fun _ _ O => ex.own O)
    (fun g r h _ _ O Z hh ret => numbers_fn g O.F.keep r fun lN h' tk' K fr na => ret _ _ _ _ _ _ (K.mono fun _ h => nomatch h) (Wrl.all Z K) ⟨lN, rfl, notall (Wrl.ex Z) fr, na, rfl, rfl, rfl⟩)
    fun v h' i' z' σ' R ⟨lN, e, nl, na, e1, e2, e3⟩ bd B' => by subst e e1 e2 e3; exact k lN R nl (.of bd na) B'
theorem J.pickN {wide : Int} {t : Tok} {lN : Addr} (G : Gc w c) (R : Rm c N) (vok : V.Ok) (B : WlD w c V i z σ D0 D) (kt : Kt D l []) (ex : ExAt V c.g) (nl : lN ∉ V.all) (na : NumsF c D lN) (hi : i ≤ 900) (hw : 0 < wide ∧ wide ≤ 3000)
    (k : ∀ x t R, 0 ≤ x → x < wide → NumsF c R lN → WlD w c V (i + 1) z σ D0 R → P (.int x t) R m) (hN : autoParam (3 ≤ N) Mine.aT2._auto_1) : J w c l m (PySem.call (.ref 758) [.ref V.feA, .int wide t]) P :=
  J.world (Res := fun v h' i' z' σ' => ∃ x t, v = .int x t ∧ 0 ≤ x ∧ x < wide ∧ NumsAt h' lN ∧ i' = i + 1 ∧ z' = z ∧ σ' = σ) 3 G R hN B kt (fun _ h => nomatch h) (fun _ _ O => ex.own O)
    (fun g r h _ _ O Z hh ret => pick_sem g O.F.keep r V vok Z hh hi wide t hw fun x t h' tk' h0 h1 K Z' => ret _ _ _ _ _ _ K Z' ⟨x, t, rfl, h0, h1, (na.at_ O kt.sub.2.1).keeps Z nl K, rfl, rfl, rfl⟩)
    fun v h' i' z' σ' R ⟨x, t, e, h0, h1, na, e1, e2, e3⟩ bd B' => by subst e e1 e2 e3; exact k x t R h0 h1 (.of bd na) B'
theorem J.numsItem {lN : Addr} {k : Int} {tk : Tok} {value slice : Expr} (na : NumsF c D lN) (s : ∀ p ∈ D, p ∈ l) (h0 : 0 ≤ k) (hk : k < 8) (h : ∀ a x t1 t2, nums[k.toNat]? = some x → TupF c D a [.int x.1 t1, .int x.2 t2] → P (.ref a) l m)
    (hs : autoParam (subscripted slice false (.ref lN) (.int k tk) = operate [.ref lN, .int k tk] (getItem (.ref lN) (.int k tk))) Mine.aT4._auto_1) : J w c l m (subscriptTail value slice (.ref lN) (.int k tk)) P := fun h1 _ O => by
  obtain ⟨vs, n, e, r⟩ := na
  have hL : h1.IsList lN vs := ⟨_, e _ _ _ O s, rfl, _, rfl⟩
  have hx : nums[k.toNat]? = some nums[k.toNat]! := by
    have : k = 0 ∨ k = 1 ∨ k = 2 ∨ k = 3 ∨ k = 4 ∨ k = 5 ∨ k = 6 ∨ k = 7 := by lia
    rcases this with rfl | rfl | rfl | rfl | rfl | rfl | rfl | rfl <;> rfl
  obtain ⟨a, t1, t2, e1, e2⟩ := r _ _ hx
  exact tail_any hL.typeIs slot_list_getitem.lookup (wpAny_getItem_list hL h0 (by lia) e1 ⟨_, _, _, _, rfl, O, h a _ t1 t2 hx e2⟩) hs
theorem J.unkItem {lU n : Nat} {k : Int} {tk t3 t4 t5 t6 : Tok} {value slice : Expr} {base : Int} (X : Sem base pt σ) (e : c.g.get? lU = some (lsO #[.int 3 t3, .int 4 t4, .int 5 t5, .int 6 t6] n)) (h0 : 0 ≤ k) (hk : k < 4)
    (h : ∀ j t, NN σ j → σ.lv j = 0 → σ.ms j = 1 → P (.int j t) l m)
    (hs : autoParam (subscripted slice false (.ref lU) (.int k tk) = operate [.ref lU, .int k tk] (getItem (.ref lU) (.int k tk))) Mine.aT4._auto_1) : J w c l m (subscriptTail value slice (.ref lU) (.int k tk)) P := by
  have hL : c.g.IsList lU #[.int 3 t3, .int 4 t4, .int 5 t5, .int 6 t6] := ⟨_, e, rfl, _, rfl⟩
  have p := fun (j : Int) (a : 3 ≤ j) (b : j < 7) => let ⟨_, _, _, h1, h2⟩ := X.unk j a b; fun t => h j t (X.nnUnk a b) h1 h2
  have : k = 0 ∨ k = 1 ∨ k = 2 ∨ k = 3 := by lia
  rcases this with rfl | rfl | rfl | rfl
  · exact J.itemB hL (by decide) (by decide) rfl (p 3 (by decide) (by decide) _) hs
  · exact J.itemB hL (by decide) (by decide) rfl (p 4 (by decide) (by decide) _) hs
  · exact J.itemB hL (by decide) (by decide) rfl (p 5 (by decide) (by decide) _) hs
  · exact J.itemB hL (by decide) (by decide) rfl (p 6 (by decide) (by decide) _) hs
theorem J.sumW {l0 : Led} {pA n0 : Nat} {v0 v1 : Value} {vs : List Value} {js : List Int} (G : Gc w c) (R : Rm c N) (vok : V.Ok) (B : WlD w c V i z σ D0 D) (e : l0 = (pA, lsO (v0 :: v1 :: vs).toArray n0) :: l) (kt : Kt D l []) (ex : ExAt V c.g) (X : Sem V.base pt σ) (hI : IntsAre (v0 :: v1 :: vs) js) (hN : ∀ j ∈ js, NW σ j) (hl : js.length = 2 ∨ js.length = 3) (hz : σ.ts.length ≤ 890) (zz : z ≤ 890)
    (k : ∀ k tk σ' R, Grow V.base pt σ σ' → σ'.ts.length ≤ σ.ts.length + 1 → NN σ' k → σ'.lv k = js.foldr (fun a m => max (σ.lv a) m) 0 → σ'.ms k = (js.map σ.ms).sum → WlD w c V i (z + 1) σ' D0 R → P (.int k tk) R m) (hn : autoParam (16 ≤ N) Mine.aT2._auto_1) : J w c l0 m (PySem.call (.ref 768) [.ref V.woA, .ref pA]) P := by
  subst e
  exact J.world (Res := fun v h' i' z' σ' => ∃ k tk, v = .int k tk ∧ Grow V.base pt σ σ' ∧ σ'.ts.length ≤ σ.ts.length + 1 ∧ NN σ' k ∧ σ'.lv k = js.foldr (fun a m => max (σ.lv a) m) 0 ∧ σ'.ms k = (js.map σ.ms).sum ∧ i' = i ∧ z' = z + 1) 16 G R hn B (.drop kt) (fun _ h => nomatch h) (fun _ _ O => ex.own O)
    (fun g r h _ _ O Z hh ret => by
      refine sum_sem g O.F.keep r V vok Z hh X pA n0 v0 v1 vs js (O.N _ (.head _)).1 (fun q => ?_) hI hN hl hz zz fun k tk h' tk' σ' G' a b c d K Z' => ret _ _ _ _ _ _ K Z' ⟨k, tk, rfl, G', a, b, c, d, rfl, rfl⟩
      rcases List.mem_cons.mp q with q | q
      · obtain ⟨_, _, _, e⟩ := ex
        rw [← q, (O.N _ (.head _)).2.2] at e; cases e
      · obtain ⟨o', ho'⟩ := B.has _ q
        exact (List.pairwise_cons.mp O.nd).1 _ (kt.sub.2.1 _ ho') rfl)
    fun v h' i' z' σ' R ⟨k', tk, e, a1, a2, a3, a4, a5, e1, e2⟩ _ B' => by subst e e1 e2; exact k k' tk σ' R a1 a2 a3 a4 a5 B'
theorem J.numberW {a : Addr} {x : Int × Int} {t1 t2 : Tok} (G : Gc w c) (R : Rm c N) (vok : V.Ok) (B : WlD w c V i z σ D0 D) (kt : Kt D l []) (ex : ExAt V c.g) (X : Sem V.base pt σ) (hx : x ∈ nums) (hw : V.base = 1 → x.2 = 1) (ha : ∀ h, Own c l m h → h.get? a = some (tupO [.int x.1 t1, .int x.2 t2])) (hz : σ.ts.length ≤ 890) (zz : z ≤ 890)
    (k : ∀ k tk σ' R, Grow V.base pt σ σ' → σ'.ts.length ≤ σ.ts.length + 1 → NW σ' k → σ'.lv k = 1 → σ'.ms k = 5 → WlD w c V i (z + 1) σ' D0 R → P (.int k tk) R m) (hn : autoParam (14 ≤ N) Mine.aT2._auto_1) : J w c l m (PySem.call (.ref 763) [.ref V.woA, .ref a]) P :=
  J.world (Res := fun v h' i' z' σ' => ∃ k tk, v = .int k tk ∧ Grow V.base pt σ σ' ∧ σ'.ts.length ≤ σ.ts.length + 1 ∧ NW σ' k ∧ σ'.lv k = 1 ∧ σ'.ms k = 5 ∧ i' = i ∧ z' = z + 1) 14 G R hn B kt (fun _ h => nomatch h) (fun _ _ O => ex.own O)
    (fun g r h _ _ O Z hh ret => number_sem g O.F.keep r V vok Z hh X a x t1 t2 hx hw (ha _ O) hz zz fun k tk h' tk' σ' G' a b c d K Z' => ret _ _ _ _ _ _ K Z' ⟨k, tk, rfl, G', a, b, c, d, rfl, rfl⟩)
    fun v h' i' z' σ' R ⟨k', tk, e, a1, a2, a3, a4, a5, e1, e2⟩ _ B' => by subst e e1 e2; exact k k' tk σ' R a1 a2 a3 a4 a5 B'
theorem J.timesW {a : Addr} {x : Int × Int} {t1 t2 jt : Tok} {j : Int} (G : Gc w c) (R : Rm c N) (vok : V.Ok) (B : WlD w c V i z σ D0 D) (kt : Kt D l []) (ex : ExAt V c.g) (X : Sem V.base pt σ) (hx : x ∈ nums) (hw : V.base = 1 → x.2 = 1) (ha : ∀ h, Own c l m h → h.get? a = some (tupO [.int x.1 t1, .int x.2 t2])) (n : NN σ j) (hl : σ.lv j ≤ 40) (hm : σ.ms j ≤ 7 ^ 40) (hz : σ.ts.length ≤ 880) (zz : z ≤ 890)
    (k : ∀ k tk σ' R, Grow V.base pt σ σ' → σ'.ts.length ≤ σ.ts.length + 2 → NW σ' k → σ'.lv k ≤ σ.lv j + 1 → σ'.ms k ≤ 5 * σ.ms j → WlD w c V i (z + 1) σ' D0 R → P (.int k tk) R m) (hn : autoParam (18 ≤ N) Mine.aT2._auto_1) : J w c l m (PySem.call (.ref 773) [.ref V.woA, .ref a, .int j jt]) P :=
  J.world (Res := fun v h' i' z' σ' => ∃ k tk, v = .int k tk ∧ Grow V.base pt σ σ' ∧ σ'.ts.length ≤ σ.ts.length + 2 ∧ NW σ' k ∧ σ'.lv k ≤ σ.lv j + 1 ∧ σ'.ms k ≤ 5 * σ.ms j ∧ i' = i ∧ z' = z + 1) 18 G R hn B kt (fun _ h => nomatch h) (fun _ _ O => ex.own O)
    (fun g r h _ _ O Z hh ret => times_sem g O.F.keep r V vok Z hh X a x t1 t2 hx hw (ha _ O) j jt n hl hm hz zz fun k tk h' tk' σ' G' a b c d K Z' => ret _ _ _ _ _ _ K Z' ⟨k, tk, rfl, G', a, b, c, d, rfl, rfl⟩)
    fun v h' i' z' σ' R ⟨k', tk, e, a1, a2, a3, a4, a5, e1, e2⟩ _ B' => by subst e e1 e2; exact k k' tk σ' R a1 a2 a3 a4 a5 B'
end
end Mine

open PySem PySem.W PySem.Calls PyProof.Rows
set_option Elab.async false
set_option linter.all false
set_option maxRecDepth 100000
set_option maxHeartbeats 40000000
namespace Mine
theorem Wrl.nodup {w : World} {V : Vd} {i z : Nat} {ts : List Tm} {wt : Int → Option (Nat → Int)} {bl : Int → Option (List Int)} {h : Heap} (vok : V.Ok) (Z : Wrl w V i z ts wt bl h) : V.all.Nodup := by
  obtain ⟨R, BL⟩ := Z.bank.led
  have n := List.pairwise_map.mpr (vok.nd BL (a := V.pts) (b := V.pts) (c := V.pts) (d := V.pts))
  have lo := vok.loFe BL (a := V.pts) (b := V.pts) (c := V.pts) (d := V.pts)
  simp only [List.map_cons, BL.adr] at n lo
  have h2 : ([V.feA, V.ceA, V.ptA, V.woA, V.wtA, V.blA] ++ V.W.bank).Nodup :=
    List.pairwise_cons.mpr ⟨List.forall_mem_cons.mpr ⟨Nat.ne_of_lt vok.a1, fun x hx => Nat.ne_of_lt (Nat.lt_trans vok.a1 (lo x hx))⟩, List.pairwise_cons.mpr ⟨fun x hx => Nat.ne_of_lt (lo x hx), n⟩⟩
  exact (List.perm_append_comm.nodup_iff (l₁ := [V.feA, V.ceA, V.ptA, V.woA, V.wtA, V.blA] ++ V.W.bank) (l₂ := V.W.bank ++ [V.feA, V.ceA, V.ptA, V.woA, V.wtA, V.blA])).mp h2
section
variable {w : World} {mean : ExcName → Option Value} {mg mb : Str → Option Value} {dp un : Nat} {fr : Option (List Env)} {gd : Option (List Code)} {s : Shared} {E : Value → Shared → Prop} {Q : Value → Shared → Prop} {hb : Heap}
variable {i z : Nat} {σ : Sg} {pt : Nat → Int → Int}
theorem next_fn (G : Gd w mean mg mb hb) (kp : ∀ b o, hb.get? b = some o → s.heap.get? b = some o) (R : Room dp un 22) (V : Vd) (vok : V.Ok) (Z : WS w V i z σ s.heap) (hhi : ∀ a ∈ V.all, hb.get? a = none) (X : Sem V.base pt σ) (unA n0 : Nat) (t3 t4 t5 t6 : Tok) (hu : s.heap.get? unA = some (lsO #[.int 3 t3, .int 4 t4, .int 5 t5, .int 6 t6] n0)) (hun : unA ∉ V.all)
    (here ahead : Int) (ht at_ : Tok) (n M : Nat) (H : Here σ here n M) (A : Ahead σ ahead n M) (hn : n ≤ 39) (hM : M ≤ 7 ^ 39) (hM1 : 1 ≤ M) (hi : i ≤ 800) (hz : σ.ts.length ≤ 870) (zz : z ≤ 870)
    (hret : ∀ (k : Int) tk h' tk' σ' i', Grow V.base pt σ σ' → σ'.ts.length ≤ σ.ts.length + 3 → NN σ' k → σ'.lv k ≤ n + 1 → σ'.ms k ≤ 7 * M → i' ≤ i + 2 → Keep V.mut s.heap h' → WS w V i' (z + 2) σ' h' → Q (.int k tk) { s with heap := h', toks := tk' }) :
    wpAny (model PySem.Challenge.rw_sj0101_01.row.prog w) (AR dp un fr gd) (call (.ref 780) [.ref V.feA, .ref V.woA, .ref unA, .int ahead at_, .int here ht]) Q E s := by
  have X₀ := G.X
  revert X₀
  k_fill
  intro X₀
  clear X₀
  have nd := Wrl.nodup vok Z
  obtain ⟨o, Z0⟩ := Z.toAt
  obtain ⟨D0, eD⟩ : ∃ D, D = o.led w V := ⟨_, rfl⟩
  have ed : D0.map (·.1) = V.all := eD ▸ rfl
  have ND : ∀ p ∈ D0, s.heap.get? p.1 = some p.2 ∧ hb.get? p.1 = none := fun p hp => ⟨Z0.at_ p (eD ▸ hp), hhi _ (ed ▸ List.mem_map_of_mem hp)⟩
  refine call_J (n := 21) D0 [((Str.ofString "feed"), .ref V.feA), ((Str.ofString "world"), .ref V.woA), ((Str.ofString "unknowns"), .ref unA), ((Str.ofString "ahead"), .int ahead at_), ((Str.ofString "here"), .int here ht)] R G kp ND (List.pairwise_map.mp (ed ▸ nd)) ?_
  intro c G R he en
  dsimp only [List.reverse, List.reverseAux]
  have gu := en.gs _ _ (ed ▸ hun) hu
  have B0 : WlD w c V i z σ D0 D0 := by subst eD; exact WlD.start Z0 en.gs
  have ex : ExAt V c.g := let ⟨a, vs, m, e⟩ := Z0.ex; ⟨a, vs, m, en.gs _ _ (ed ▸ a) e⟩
  clear eD
  have e1 := H.l
  have e2 := H.m
  have e3 := A.l
  have e4 := A.m
  k_with "kt_MNext2" => (first | exact .nil | (refine .drop ?_; k_extra "kt_MNext2"))
  k_with "sem_MNext2" => (first | assumption | exact Grow.sem (by assumption))
  k_with "nw_MNext2" => (first | assumption | exact NN.nw (by assumption) | exact (Here.nn (by assumption)).nw)
  k_with "nws_MNext2" => (first | exact List.forall_mem_nil _ | (refine List.forall_mem_cons.mpr ⟨by k_extra "nw_MNext2", ?_⟩; k_extra "nws_MNext2"))
  k_with "whole_MNext2" => (first | (intro q; exact absurd q (by lia)) | exact fun _ => nums_whole (by assumption) (by lia) (by assumption))
  k_with "next_MNext2" => ((with_reducible refine (?_ : J _ _ _ _ (PySem.call (.ref 758) _) _)); first
    | (refine J.pickN G R vok (by assumption) (by k_extra "kt_MNext2") ex (by assumption) (by assumption) (by lia) (by lia) ?_; intro x9 t9 R9 x0 x1 na9 B9)
    | (refine J.pickW G R vok (by assumption) (by k_extra "kt_MNext2") ex (by lia) (by lia) ?_; intro x9 t9 R9 x0 x1 B9))
  k_with "next_MNext2" => ((with_reducible refine (?_ : J _ _ _ _ (PySem.call (.ref 751) _) _)); refine J.numbersW G R (by assumption) (by k_extra "kt_MNext2") ex ?_; intro l9 R9 nl9 na9 B9)
  k_with "next_MNext2" => ((with_reducible refine (?_ : J _ _ _ _ (subscriptTail _ _ (.ref unA) _) _)); refine J.unkItem (by k_extra "sem_MNext2") gu (by assumption) (by assumption) ?_; intro j9 tj9 nj9 aj9 bj9)
  k_with "next_MNext2" => ((with_reducible refine (?_ : J _ _ _ _ (subscriptTail _ _ (.ref V.woA) _) _)); refine J.witem (by assumption) (by k_extra "sub") ex rfl ?_)
  k_with "next_MNext2" => ((with_reducible refine (?_ : J _ _ _ _ (subscriptTail _ _ (.ref _) (.int _ _)) _)); refine J.numsItem (by assumption) (by k_extra "sub") (by assumption) (by lia) ?_; intro a9 x9 t8 t7 e9 ta9; have xm9 := List.mem_of_getElem? e9)
  k_with "next_MNext2" => ((with_reducible refine (?_ : J _ _ _ _ (PySem.call (.ref 768) _) _)); (first | refine J.sumW (V := V) (pt := pt) G R vok (by assumption) rfl (by k_extra "kt_MNext2") ex (by k_extra "sem_MNext2") (.cons _ _ (.cons _ _ .nil)) (by k_extra "nws_MNext2") (.inl rfl) (by lia) (by lia) ?_ | refine J.sumW (V := V) (pt := pt) G R vok (by assumption) rfl (by k_extra "kt_MNext2") ex (by k_extra "sem_MNext2") (.cons _ _ (.cons _ _ (.cons _ _ .nil))) (by k_extra "nws_MNext2") (.inr rfl) (by lia) (by lia) ?_); intro k9 tk9 σ9 R9 G9 le9 n9 a9 b9 B9; simp only [List.foldr_cons, List.foldr_nil, List.map_cons, List.map_nil, List.sum_cons, List.sum_nil] at a9 b9)
  k_with "next_MNext2" => ((with_reducible refine (?_ : J _ _ _ _ (PySem.call (.ref 763) _) _)); refine J.numberW G R vok (by assumption) (by k_extra "kt_MNext2") ex (by k_extra "sem_MNext2") xm9 (by k_extra "whole_MNext2") (fun h O => ta9 _ _ _ O (by k_extra "sub")) (by lia) (by lia) ?_; intro k9 tk9 σ9 R9 G9 le9 n9 a9 b9 B9; have H := Here.mono G9 H; have A := Here.mono G9 A; have e1 := H.l; have e2 := H.m; have e3 := A.l; have e4 := A.m)
  k_with "next_MNext2" => ((with_reducible refine (?_ : J _ _ _ _ (PySem.call (.ref 773) _) _)); (first
    | refine J.timesW G R vok (by assumption) (by k_extra "kt_MNext2") ex (by k_extra "sem_MNext2") xm9 (by k_extra "whole_MNext2") (fun h O => ta9 _ _ _ O (by k_extra "sub")) H.nn (by lia) (by lia) (by lia) (by lia) ?_
    | refine J.timesW (x := ((-1 : Int), (1 : Int))) G R vok (by assumption) (by k_extra "kt_MNext2") ex (by k_extra "sem_MNext2") (by decide) (fun _ => rfl) (fun h O => O.N.get (.head _)) H.nn (by lia) (by lia) (by lia) (by lia) ?_); intro k9 tk9 σ9 R9 G9 le9 n9 a9 b9 B9; have H := Here.mono G9 H; have A := Here.mono G9 A; have e1 := H.l; have e2 := H.m; have e3 := A.l; have e4 := A.m)
  repeat' (first | k_extra "next_MNext2" | k_extra "j")
  all_goals (
    intro h9 tk9 O9 K9
    rename WlD _ _ _ _ _ _ _ _ => B9
    rename NN _ _ => n9
    refine hret _ _ _ _ _ _ (by first | assumption | exact Grow.trans (by assumption) (by assumption)) (by lia) n9 (by lia) (by lia) (by lia) (B9.keep O9 (fun p h => h) (fun p hp => (ND p hp).1) ed K9) (WS.more (B9.ws O9 (fun _ h => h) (ex.own O9)) (by lia)))
end
end Mine

open PySem PySem.W PySem.Calls PyProof.Rows
set_option Elab.async false
set_option linter.all false
set_option maxRecDepth 100000
set_option maxHeartbeats 40000000
namespace Mine
theorem fn_lit {w : World} {f : Addr} {name qual name' qual' : Str} {params params' : Arguments} {body body' : List Stmt} {scope scope' : Scope} {dV kV doc pm cdv ct oc dV' kV' doc' pm' cdv' ct' oc' : Value} {an od an' od' : Option Addr} {osl osl' : Array (Option Value)} {P : Prop}
    (ho : (heapK w.params).lookup f = some ⟨oc, od, .func (fnOf name qual params body scope dV kV doc pm an cdv ct), osl⟩)
    (h : qual = qual' → body = body' → scope = scope' → cdv = cdv' → P)
    (ho' : autoParam ((heapK w.params).lookup f = some ⟨oc', od', .func (fnOf name' qual' params' body' scope' dV' kV' doc' pm' an' cdv' ct'), osl'⟩) Mine.aT0._auto_1) : P := by
  rw [ho] at ho'
  injection ho' with e
  injection e with e1 e2 e3 e4
  injection e3 with e3
  unfold fnOf at e3
  injection e3
  rename FuncBody.stmts _ = FuncBody.stmts _ => eb
  injection eb
  apply h <;> assumption
noncomputable def ptF (c1 c2 c3 c4 : Int) (i : Nat) (k : Int) : Int :=
  if i = 0 then 0 else if i = 5 then (if k = 3 then c1 else if k = 4 then c2 else if k = 5 then c3 else if k = 6 then c4 else 0) else if k = (i : Int) + 2 then 1 else 0
theorem four_at {t3 t4 t5 t6 : Tok} {i : Nat} {v : Value} (h : (#[.int 3 t3, .int 4 t4, .int 5 t5, .int 6 t6] : Array Value)[i]? = some v) : ∃ t, v = .int (3 + (i : Int)) t ∧ i < 4 := by
  match i, h with
  | 0, h => cases h; exact ⟨_, rfl, by decide⟩
  | 1, h => cases h; exact ⟨_, rfl, by decide⟩
  | 2, h => cases h; exact ⟨_, rfl, by decide⟩
  | 3, h => cases h; exact ⟨_, rfl, by decide⟩
  | i + 4, h => simp at h
theorem J.addLO {w : World} {c : Cx} {l : Led} {m : Mp} {P : Value → Led → Mp → Prop} {a b : Addr} {xs ys : List Value} {n1 n2 : Nat} (i j : Nat) (h1 : nth l i = some (a, lsO xs.toArray n1)) (h2 : nth l j = some (b, lsO ys.toArray n2)) (hz : xs.length + ys.length ≤ 16384) (k : ∀ (D : Nat) n, (∀ p ∈ l, @LT.lt Nat _ p.1 D) → P (.ref D) ((D, lsO (xs ++ ys).toArray n) :: l) m) : J w c l m (binaryOp .Add (.ref a) (.ref b)) P := fun h tk O =>
  PySem.W.kmk_add_lit (zs := xs ++ ys) O.F O.N (O.N.isList (nth_mem h1)) (O.N.isList (nth_mem h2)) (by simp) (fun D h' F' N' lt => ⟨_, _, _, _, rfl, ⟨F', N', O.nd.cons lt⟩, k D 0 lt⟩) (by rw [sizeLine_eq]; simp; lia)
end Mine

open PySem PySem.W PySem.Calls PyProof.Rows
set_option Elab.async false
set_option linter.all false
set_option maxRecDepth 100000
set_option maxHeartbeats 40000000
namespace Mine
noncomputable abbrev lapKeys (V : Vd) (unA : Addr) : List Addr := unA :: (V.all ++ [V.p0, V.p1, V.p2, V.p3, V.p4, V.p5])
structure LapP (w : World) (V : Vd) (i z : Nat) (σ : Sg) (pt : Nat → Int → Int) (unA n0 : Nat) (t3 t4 t5 t6 : Tok) (h : Heap) : Prop where
  ws : WS w V i z σ h
  un : h.get? unA = some (lsO #[.int 3 t3, .int 4 t4, .int 5 t5, .int 6 t6] n0)
  pts : PtsOk w V pt h
theorem pA_mem (V : Vd) {i : Nat} (h : i < 6) : V.pA i ∈ [V.p0, V.p1, V.p2, V.p3, V.p4, V.p5] := by
  have : i = 0 ∨ i = 1 ∨ i = 2 ∨ i = 3 ∨ i = 4 ∨ i = 5 := by lia
  rcases this with rfl | rfl | rfl | rfl | rfl | rfl <;> simp [Vd.pA]
section
variable {w : World} {V : Vd} {i z i' z' : Nat} {σ σ' : Sg} {pt : Nat → Int → Int} {unA n0 : Nat} {t3 t4 t5 t6 : Tok} {h h' g : Heap} {L : Addr}
theorem WS.later (Z : WS w V i z σ h) (kk : ∀ a ∈ V.all, ∀ o, h.get? a = some o → h'.get? a = some o) (sk : SeqKeep V.off h h') (ex : ∃ vs n, h'.get? V.exA = some (lsO vs n)) : WS w V i z σ h' := by
  have xa := Wrl.ex Z
  obtain ⟨o, Z⟩ := Z.toAt
  have tk : TupKeep h h' := by
    intro b ob xs n e hc hd
    refine sk b ob xs n (fun q => ?_) hd e
    rcases List.mem_cons.mp q with rfl | q
    · obtain ⟨_, _, _, e2⟩ := Z.ex
      rw [e2] at e; cases e
      simp at hc
    · have : b ∈ (o.led w V).map (·.1) := q
      obtain ⟨p, hp, rfl⟩ := List.mem_map.mp this
      have h1 := Z.at_ p hp
      rw [h1] at e; cases e
      rcases Z.nt p hp with h2 | h2
      · exact h2 hc
      · exact h2 _ _ hd
  have a : ∀ p ∈ o.led w V, h'.get? p.1 = some p.2 := fun p hp => kk p.1 (List.mem_map_of_mem hp : p.1 ∈ (o.led w V).map (·.1)) _ (Z.at_ p hp)
  have b := a
  simp only [WObj.led, List.forall_mem_cons] at b
  obtain ⟨a1, a2, a3, a4, a5, a6, a7, a8, a9, a10, a11, a12, a13, _⟩ := b
  exact WrlAt.toWrl ⟨Z.core.tup tk a3 a4 a5 a6 a7, Z.cells, Z.feed, Z.d1, Z.d2, Z.d3, Z.wtAt.keepsX sk, Z.blAt.keepsX sk, Z.l2, Z.l3, ⟨Z.ex.1, ex⟩, a⟩
theorem LapP.later (x : LapP w V i z σ pt unA n0 t3 t4 t5 t6 h) (kk : ∀ a ∈ lapKeys V unA, ∀ o, h.get? a = some o → h'.get? a = some o) (sk : SeqKeep V.off h h') (ex : ∃ vs n, h'.get? V.exA = some (lsO vs n)) : LapP w V i z σ pt unA n0 t3 t4 t5 t6 h' := by
  refine ⟨x.ws.later (fun a ha => kk a (.tail _ (List.mem_append_left _ ha))) sk ex, kk _ (.head _) _ x.un, fun i hi => ?_⟩
  obtain ⟨o, kvs, e, r⟩ := x.pts i hi
  exact ⟨o, kvs, kk _ (.tail _ (List.mem_append_right _ (pA_mem V hi))) _ e, r⟩
end
structure LpD (w : World) (c : Cx) (V : Vd) (i z : Nat) (σ : Sg) (pt : Nat → Int → Int) (unA n0 : Nat) (t3 t4 t5 t6 : Tok) (D : Led) : Prop where
  at_ : ∀ h l m, Own c l m h → (∀ p ∈ D, p ∈ l) → (∃ vs n, h.get? V.exA = some (lsO vs n)) → LapP w V i z σ pt unA n0 t3 t4 t5 t6 h
  has : ∀ a ∈ lapKeys V unA, ∃ o, (a, o) ∈ D
  unN : unA ∉ V.all
  ptN : ∀ i, i < 6 → V.pA i ∉ V.all
  exN : V.exA ∉ V.all
section
variable {w : World} {c : Cx} {l D X : Led} {m : Mp} {P : Value → Led → Mp → Prop} {N : Nat} {V : Vd} {i z : Nat} {σ : Sg} {pt : Nat → Int → Int} {unA n0 : Nat} {t3 t4 t5 t6 : Tok}
theorem J.lapW {t : PySem.Sem Value} {Res : Value → Nat → Nat → Sg → Prop} (n : Nat) (G : Gc w c) (R : Rm c N) (hN : n ≤ N) (B : LpD w c V i z σ pt unA n0 t3 t4 t5 t6 D) (kt : Kt D l X) (hX : ∀ p ∈ X, (∀ xs n, p.2.data ≠ .seq xs n) ∨ p.1 = V.exA) (ex : ∃ vs n, (V.exA, lsO vs n) ∈ X)
    (h : ∀ {mean mg mb} {dp un : Nat} {fr gd} (_ : Gd w mean mg mb c.g) (_ : Room dp un n) h tk (Q : Value → Shared → Prop), Own c l m h → LapP w V i z σ pt unA n0 t3 t4 t5 t6 h → (∀ a ∈ V.all, c.g.get? a = none) →
      (∀ v h' tk' i' z' σ', Keep V.mut h h' → WS w V i' z' σ' h' → Res v i' z' σ' → Q v (c.st h' tk')) → wpAny (model PR w) (AR dp un fr gd) t Q noE (c.st h tk))
    (k : ∀ v i' z' σ' R, Res v i' z' σ' → LpD w c V i' z' σ' pt unA n0 t3 t4 t5 t6 R → P v (X ++ R) m) : J w c l m t P := by
  have s2 := kt.sub.2.1
  obtain ⟨vx, nx, hx⟩ := ex
  have kA : ∀ a ∈ V.all, a ∈ lapKeys V unA := fun a ha => .tail _ (List.mem_append_left _ ha)
  have hxl := kt.sub.1 _ hx
  refine J.bnd (Res := fun v h' => ∃ i' z' σ', WS w V i' z' σ' h' ∧ Res v i' z' σ') n G R hN V.mut (fun a ha => B.has a (kA a (mut_all a ha))) kt
    (fun g r h1 tk Q O ret => h g r h1 tk Q O (B.at_ _ _ _ O s2 ⟨vx, nx, (O.N _ hxl).1⟩) (fun a ha => let ⟨_, e⟩ := B.has a (kA a ha); (O.N _ (s2 _ e)).2.2) fun v h' tk' i' z' σ' K Z res => ret v h' tk' K ⟨i', z', σ', Z, res⟩) ?_
  rintro v h0 h' R O K ⟨i', z', σ', Z', res⟩ bd O'
  have P0 := B.at_ _ _ _ O s2 ⟨vx, nx, (O.N _ hxl).1⟩
  have inR : ∀ a ∈ lapKeys V unA, ∀ o, h'.get? a = some o → (a, o) ∈ R := fun a ha o e => let ⟨_, hm⟩ := B.has a ha; bd.old kt O hm e
  have PT : PtsOk w V pt h' := fun j hj => by
    obtain ⟨o, kvs, e, r⟩ := P0.pts j hj
    exact ⟨o, kvs, K _ _ (fun q => B.ptN j hj (mut_all _ q)) e, r⟩
  have P2 : LapP w V i' z' σ' pt unA n0 t3 t4 t5 t6 h' := ⟨Z', K _ _ (fun q => B.unN (mut_all _ q)) P0.un, PT⟩
  refine k v i' z' σ' R res ⟨fun h2 l2 m2 O2 s e2 => P2.later (fun a ha o e => (O2.N _ (s _ (inR a ha o e))).1) (fun b o xs n hb hd e => ?_) e2, fun a ha => ?_, B.unN, B.ptN, B.exN⟩
  · refine bd.seq O2.F O2.N s b o xs n (fun q => ?_) hd e
    obtain ⟨p, hp, rfl⟩ := List.mem_map.mp q
    rw [(bd.at_ p hp).1] at e; cases e
    rcases hX p hp with r | r
    · exact r _ _ hd
    · exact hb (r ▸ .head _)
  · have ex : ∃ o, h'.get? a = some o := by
      rcases List.mem_cons.mp ha with rfl | ha
      · exact ⟨_, P2.un⟩
      · rcases List.mem_append.mp ha with ha | ha
        · exact Wrl.ex Z' a ha
        · have p (j : Nat) (hj : j < 6) : ∃ o, h'.get? (V.pA j) = some o := let ⟨o, _, q, _⟩ := PT j hj; ⟨o, q⟩
          exact (List.forall_mem_cons.mpr ⟨p 0 (by decide), List.forall_mem_cons.mpr ⟨p 1 (by decide), List.forall_mem_cons.mpr ⟨p 2 (by decide), List.forall_mem_cons.mpr ⟨p 3 (by decide), List.forall_mem_cons.mpr ⟨p 4 (by decide), List.forall_mem_cons.mpr ⟨p 5 (by decide), List.forall_mem_nil _⟩⟩⟩⟩⟩⟩ : ∀ a ∈ [V.p0, V.p1, V.p2, V.p3, V.p4, V.p5], ∃ o, h'.get? a = some o) a ha
    obtain ⟨o, eo⟩ := ex
    exact ⟨o, inR a ha o eo⟩
end
end Mine

open PySem PySem.W PySem.Calls PyProof.Rows
set_option Elab.async false
set_option linter.all false
set_option maxRecDepth 100000
set_option maxHeartbeats 40000000
namespace Mine
theorem ptF_b {c1 c2 c3 c4 : Int} (h1 : -1000 ≤ c1 ∧ c1 ≤ 1000) (h2 : -1000 ≤ c2 ∧ c2 ≤ 1000) (h3 : -1000 ≤ c3 ∧ c3 ≤ 1000) (h4 : -1000 ≤ c4 ∧ c4 ≤ 1000) (i : Nat) (k : Int) : -1000 ≤ ptF c1 c2 c3 c4 i k ∧ ptF c1 c2 c3 c4 i k ≤ 1000 := by
  unfold ptF
  split
  · decide
  · split
    · split
      · exact h1
      · split
        · exact h2
        · split
          · exact h3
          · split
            · exact h4
            · decide
    · split <;> decide
structure Drawn4 (c1 c2 c3 c4 : Int) : Prop where
  h1 : -1000 ≤ c1 ∧ c1 ≤ 1000
  h2 : -1000 ≤ c2 ∧ c2 ≤ 1000
  h3 : -1000 ≤ c3 ∧ c3 ≤ 1000
  h4 : -1000 ≤ c4 ∧ c4 ≤ 1000
theorem Drawn4.b {c1 c2 c3 c4 : Int} (d : Drawn4 c1 c2 c3 c4) (i : Nat) (k : Int) : -1000 ≤ ptF c1 c2 c3 c4 i k ∧ ptF c1 c2 c3 c4 i k ≤ 1000 := ptF_b d.h1 d.h2 d.h3 d.h4 i k
theorem Drawn4.mul {c1 c2 c3 c4 : Int} (d : Drawn4 c1 c2 c3 c4) (i : Nat) (k : Int) : IntMulOk (6 ^ 48) (ptF c1 c2 c3 c4 i k) := by
  obtain ⟨h1, h2⟩ := d.b i k
  refine mulOk (k := 200) (by decide +kernel) (Nat.lt_of_le_of_lt (show (ptF c1 c2 c3 c4 i k).natAbs ≤ 1000 by lia) (by decide +kernel)) (by decide) (by decide)
noncomputable def sg0 (b c1 c2 c3 c4 : Int) : Sg := ⟨T7 b, fun k => if 3 ≤ k ∧ k < 7 then some (fun i => S48 * ptF c1 c2 c3 c4 i k) else none, fun _ => none, fun k i => S48 * ptF c1 c2 c3 c4 i k, fun _ => 0, fun _ => 1⟩
theorem sem0 {b c1 c2 c3 c4 : Int} (d : Drawn4 c1 c2 c3 c4) : Sem b (ptF c1 c2 c3 c4) (sg0 b c1 c2 c3 c4) := by
  refine ⟨by show 7 ≤ (T7 b).length; simp, fun k t hk e => ?_, rfl, rfl, rfl, rfl, fun k hk => ?_, fun k h3 h7 => ?_, fun k h7 hk => ?_, d.b⟩
  · have : k = 0 ∨ k = 1 ∨ k = 2 := by lia
    rcases this with rfl | rfl | rfl
    · cases e
      refine ⟨?_, ?_, ?_⟩ <;> decide
    · cases e
      refine ⟨?_, ?_, ?_⟩ <;> decide
    · cases e
      refine ⟨?_, ?_, ?_⟩ <;> decide
  · have hk : (7 : Int) ≤ k := hk
    exact ⟨if_neg (by lia), rfl⟩
  · exact ⟨if_pos ⟨h3, h7⟩, fun _ => rfl, .inl rfl, rfl, rfl⟩
  · have hk : k < (7 : Int) := hk
    lia
theorem here0 {b c1 c2 c3 c4 c : Int} (d : Drawn4 c1 c2 c3 c4) (h : 0 ≤ c ∧ c < 4) : Here (sg0 b c1 c2 c3 c4) (3 + c) 0 1 := ⟨(sem0 d).nnUnk (by lia) (by lia), Nat.le_refl _, Nat.le_refl _⟩
theorem ahead0 {b c1 c2 c3 c4 c : Int} (d : Drawn4 c1 c2 c3 c4) (h : 0 ≤ c ∧ c < 4) : Ahead (sg0 b c1 c2 c3 c4) (3 + c) 0 1 := ⟨(sem0 d).nnUnk (by lia) (by lia), Nat.le_refl _, Nat.le_refl _⟩
noncomputable abbrev vdOf (W : Wd) (feA ceA dP dO dW dB : Nat) (b : Int) (tb : Tok) (p0 p1 p2 p3 p4 p5 nP exA : Nat) : Vd := ⟨W, feA, ceA, dP, dO, dW, dB, b, tb, p0, p1, p2, p3, p4, p5, nP, exA⟩
structure Fine (σ : Sg) (t : Int) : Prop where
  nn : NN σ t
  l : σ.lv t ≤ 40
  m : σ.ms t ≤ 7 ^ 40
theorem Fine.mono {base : Int} {pt : Nat → Int → Int} {σ σ' : Sg} {k : Int} (G : Grow base pt σ σ') (h : Fine σ k) : Fine σ' k :=
  ⟨h.nn.mono G.le, by rw [G.le.lv k h.nn.nw.hi]; exact h.l, by rw [G.le.ms k h.nn.nw.hi]; exact h.m⟩
theorem range_up {t : Int} (h : 0 ≤ t) : Builtin.Range.rangeSize 0 t 1 = (t.toNat : Int) := by
  unfold Builtin.Range.rangeSize
  simp
  split <;> lia
theorem small_up {t : Int} (h0 : 0 ≤ t) (h : t < 1000) : Builtin.Range.small 0 t 1 = true := by
  unfold Builtin.Range.small
  rw [range_up h0]
  simp only [Builtin.Range.rangeFitsLong, Bool.and_eq_true, Bool.or_eq_true, decide_eq_true_eq, beq_iff_eq, show (1 : Int) > 0 by decide, if_true]
  lia
theorem ints_push {vs : Array Value} {ns : List Int} {x : Int} {t : Tok} (h : IntsAre vs.toList ns) : IntsAre (vs.push (.int x t)).toList (ns ++ [x]) := by
  rw [Array.toList_push]
  exact h.append (.cons _ _ .nil)
structure LapI (V : Vd) (pt : Nat → Int → Int) (k : Nat) (σ : Sg) (i z : Nat) (here ahead : Int) (cv : Array Value) (ks : List Int) : Prop where
  sem : Sem V.base pt σ
  H : Here σ here k (7 ^ k)
  A : Ahead σ ahead k (7 ^ k)
  ia : IntsAre cv.toList ks
  len : ks.length = k
  fine : ∀ t ∈ ks, Fine σ t
  bi : i ≤ 8 + 2 * k
  bz : z ≤ 4 + 2 * k
  bl : σ.ts.length ≤ 7 + 3 * k
theorem LapI.step {V : Vd} {pt : Nat → Int → Int} {k i z i' : Nat} {σ σ' : Sg} {here ahead : Int} {cv : Array Value} {ks : List Int} (S : LapI V pt k σ i z here ahead cv ks) (hk : k < 32) {late : Int} {tk : Tok} (G : Grow V.base pt σ σ') (le : σ'.ts.length ≤ σ.ts.length + 3) (n : NN σ' late) (lv : σ'.lv late ≤ k + 1) (ms : σ'.ms late ≤ 7 * 7 ^ k) (hi : i' ≤ i + 2) :
    LapI V pt (k + 1) σ' i' (z + 2) late here (cv.push (.int late tk)) (ks ++ [late]) := by
  have e : 7 ^ (k + 1) = 7 * 7 ^ k := by rw [Nat.pow_succ]; lia
  have p : 7 ^ k ≤ 7 ^ 39 := Nat.pow_le_pow_right (by lia) (by lia)
  have hm := Here.mono G S.H
  have b1 := S.bi; have b2 := S.bz; have b3 := S.bl
  refine ⟨G.sem, ⟨n, lv, by rw [e]; exact ms⟩, ⟨hm.nn, by have := hm.l; lia, by have := hm.m; lia⟩, ints_push S.ia, by rw [List.length_append, S.len, List.length_singleton], fun t ht => ?_, by lia, by lia, by lia⟩
  rcases List.mem_append.mp ht with ht | ht
  · exact (S.fine t ht).mono G
  · rw [List.mem_singleton.mp ht]
    exact ⟨n, by lia, by rw [show (7 : Nat) ^ 40 = 7 * 7 ^ 39 by rw [Nat.pow_succ]]; lia⟩
section
variable {w : World} {c : Cx} {l D X : Led} {m : Mp} {P : Value → Led → Mp → Prop} {N : Nat} {V : Vd} {i z k : Nat} {σ : Sg} {pt : Nat → Int → Int} {unA n0 : Nat} {t3 t4 t5 t6 : Tok} {here ahead : Int} {cv : Array Value} {ks : List Int}
theorem J.nextW {ht at_ : Tok} (G : Gc w c) (R : Rm c N) (vok : V.Ok) (B : LpD w c V i z σ pt unA n0 t3 t4 t5 t6 D) (S : LapI V pt k σ i z here ahead cv ks) (hk : k < 32) (kt : Kt D l X) (hX : ∀ p ∈ X, (∀ xs n, p.2.data ≠ .seq xs n) ∨ p.1 = V.exA) (ex : ∃ vs n, (V.exA, lsO vs n) ∈ X)
    (kk : ∀ (late : Int) tk σ' i' R, LpD w c V i' (z + 2) σ' pt unA n0 t3 t4 t5 t6 R → (∀ tk, LapI V pt (k + 1) σ' i' (z + 2) late here (cv.push (.int late tk)) (ks ++ [late])) → P (.int late tk) (X ++ R) m) (hN : autoParam (22 ≤ N) Mine.aT2._auto_1) :
    J w c l m (PySem.call (.ref 780) [.ref V.feA, .ref V.woA, .ref unA, .int ahead at_, .int here ht]) P := by
  have b1 := S.bi; have b2 := S.bz; have b3 := S.bl
  refine J.lapW (Res := fun v i' z' σ' => ∃ late tk, v = .int late tk ∧ z' = z + 2 ∧ ∀ tk, LapI V pt (k + 1) σ' i' (z + 2) late here (cv.push (.int late tk)) (ks ++ [late])) 22 G R hN B kt hX ex
    (fun g r h tk Q O P hhi ret => next_fn g O.F.keep r V vok P.ws hhi S.sem unA n0 t3 t4 t5 t6 P.un B.unN here ahead ht at_ k (7 ^ k) S.H S.A (by lia) (Nat.pow_le_pow_right (by lia) (by lia)) (Nat.pos_of_ne_zero (by simp)) (by lia) (by lia) (by lia) fun late tk h' tk' σ' i' Gr le n lv ms hi K Z => ret _ _ _ i' (z + 2) σ' K Z ⟨late, tk, rfl, rfl, fun tk => S.step hk Gr le n lv ms hi⟩) ?_
  rintro v i' z' σ' R' ⟨late, tk, rfl, rfl, S'⟩ B'
  exact kk late tk σ' i' R' B' S'
theorem J.pickL {wide : Int} {t : Tok} (G : Gc w c) (R : Rm c N) (vok : V.Ok) (B : LpD w c V i z σ pt unA n0 t3 t4 t5 t6 D) (kt : Kt D l X) (hX : ∀ p ∈ X, (∀ xs n, p.2.data ≠ .seq xs n) ∨ p.1 = V.exA) (ex : ∃ vs n, (V.exA, lsO vs n) ∈ X) (hi : i ≤ 900) (hw : 0 < wide ∧ wide ≤ 3000)
    (kk : ∀ c' tk R, 0 ≤ c' → c' < wide → LpD w c V (i + 1) z σ pt unA n0 t3 t4 t5 t6 R → P (.int c' tk) (X ++ R) m) (hN : autoParam (3 ≤ N) Mine.aT2._auto_1) : J w c l m (PySem.call (.ref 758) [.ref V.feA, .int wide t]) P := by
  refine J.lapW (Res := fun v i' z' σ' => ∃ c' tk, v = .int c' tk ∧ (0 ≤ c' ∧ c' < wide) ∧ i' = i + 1 ∧ z' = z ∧ σ' = σ) 3 G R hN B kt hX ex
    (fun g r h tk Q O P hhi ret => pick_sem g O.F.keep r V vok P.ws hhi hi wide t hw fun c' tk h' tk' h0 h1 K Z => ret _ _ _ _ _ _ K Z ⟨c', tk, rfl, ⟨h0, h1⟩, rfl, rfl, rfl⟩) ?_
  rintro v i' z' σ' R' ⟨c', tk, rfl, ⟨h0, h1⟩, rfl, rfl, rfl⟩ B'
  exact kk c' tk R' h0 h1 B'
end
end Mine

open PySem PySem.W PySem.Calls PyProof.Rows
set_option Elab.async false
set_option linter.all false
set_option maxRecDepth 100000
set_option maxHeartbeats 40000000
namespace Mine
structure WtI (pt : Nat → Int → Int) (i : Nat) (ls : Led) (kvs : List (Int × Value)) : Prop where
  at_ : ∀ j : Nat, j < i → ∃ a vs n, valueAt kvs (3 + (j : Int)) = some (.ref a) ∧ (a, lsO vs n) ∈ ls ∧ Six vs (fun p => S48 * pt p (3 + (j : Int)))
  no : ∀ k : Int, (k < 3 ∨ 3 + (i : Int) ≤ k) → valueAt kvs k = none
  len : kvs.length ≤ i
theorem WtI.zero {pt : Nat → Int → Int} : WtI pt 0 [] [] := ⟨fun j h => absurd h (Nat.not_lt_zero _), fun _ _ => rfl, Nat.le_refl _⟩
theorem WtI.step {pt : Nat → Int → Int} {i : Nat} {ls : Led} {kvs : List (Int × Value)} (W : WtI pt i ls kvs) {a : Nat} {vs : Array Value} {n : Nat} (h : Six vs (fun p => S48 * pt p (3 + (i : Int)))) : WtI pt (i + 1) ((a, lsO vs n) :: ls) (stored kvs (3 + (i : Int)) (.ref a)) := by
  refine ⟨fun j hj => ?_, fun k hk => ?_, Nat.le_trans (stored_length_le _ _ _) (Nat.succ_le_succ W.len)⟩
  · rw [valueAt_stored]
    by_cases q : j = i
    · subst q
      rw [if_pos rfl]
      exact ⟨a, vs, n, rfl, .head _, h⟩
    · obtain ⟨a', vs', n', e, m, s⟩ := W.at_ j (by lia)
      rw [if_neg (by lia)]
      exact ⟨a', vs', n', e, .tail _ m, s⟩
  · rw [valueAt_stored, if_neg (by lia)]
    exact W.no k (by lia)
theorem six_at {p0 p1 p2 p3 p4 p5 : Nat} {i : Nat} {v : Value} (h : (#[.ref p0, .ref p1, .ref p2, .ref p3, .ref p4, .ref p5] : Array Value)[i]? = some v) : ∃ a, v = .ref a ∧ [p0, p1, p2, p3, p4, p5][i]? = some a := by
  match i, h with
  | 0, h => cases h; exact ⟨_, rfl, rfl⟩
  | 1, h => cases h; exact ⟨_, rfl, rfl⟩
  | 2, h => cases h; exact ⟨_, rfl, rfl⟩
  | 3, h => cases h; exact ⟨_, rfl, rfl⟩
  | 4, h => cases h; exact ⟨_, rfl, rfl⟩
  | 5, h => cases h; exact ⟨_, rfl, rfl⟩
  | i + 6, h => simp at h
section
variable {w : World} {c : Cx}
theorem law_3 {m : Mp} {PF : Flow → Led → Mp → Prop} (G : Gc w c) (R : Rm c 39) {name qual : Str} {params : Arguments} {body : List Stmt} {scope : Scope} {dV kV doc pm cdv ct oc : Value} {an od : Option Addr} {osl : Array (Option Value)} (ho : (heapK w.params).lookup 802 = some ⟨oc, od, .func (fnOf name qual params body scope dV kV doc pm an cdv ct), osl⟩)
    (he : EnvX c (envOfC qual scope c.L 802 cdv)) {oU oW oO : Obj} {v0 : Option Value} {woA wtA ptA unA nP nU p0 p1 p2 p3 p4 p5 : Nat} {o0 o1 o2 o3 o4 o5 : Obj} {t3 t4 t5 t6 : Tok} {T0 : Led} {pt : Nat → Int → Int} {es : List (Str × Value)} (dU : oU.data = .cell v0)
    (dO : oO.IsDictOf (PySem.strKind PR w) es) (hw : lkv es (Str.ofString "worth") = some (.ref wtA)) (dW : oW.IsDictOf (PySem.intKind PR w) [])
    (hp : ∀ i : Nat, ∀ a, [p0, p1, p2, p3, p4, p5][i]? = some a → ∃ o, (a, o) ∈ [(p5, o5), (p4, o4), (p3, o3), (p2, o2), (p1, o1), (p0, o0)] ∧ PtO w o (pt i) ∧ (a == sysModules) = false) (hb : ∀ i u, IntMulOk (6 ^ 48) (pt i u))
    (m1 : m.lookup (Str.ofString "world") = some (.ref woA)) (m2 : m.lookup (Str.ofString "points") = some (.ref ptA)) (m3 : m.lookup (Str.ofString "unknowns") = some (.ref unA))
    (k : ∀ oU v oW kvs ls, oU.data = .cell v → oW.IsDictOf (PySem.intKind PR w) kvs → WtI pt 4 ls kvs → J w c ((c.L + 1 + 1, oU) :: ([(unA, lsO #[.int 3 t3, .int 4 t4, .int 5 t5, .int 6 t6] nU), (p5, o5), (p4, o4), (p3, o3), (p2, o2), (p1, o1), (p0, o0), (ptA, lsO #[.ref p0, .ref p1, .ref p2, .ref p3, .ref p4, .ref p5] nP), (woA, oO), (wtA, oW)] ++ (ls ++ T0))) m (execs (body.drop 8) (envOfC qual scope c.L 802 cdv)) PF) :
    ∀ st rest, body.drop 7 = st :: rest → J w c ((c.L + 1 + 1, oU) :: ([(unA, lsO #[.int 3 t3, .int 4 t4, .int 5 t5, .int 6 t6] nU), (p5, o5), (p4, o4), (p3, o3), (p2, o2), (p1, o1), (p0, o0), (ptA, lsO #[.ref p0, .ref p1, .ref p2, .ref p3, .ref p4, .ref p5] nP), (woA, oO), (wtA, oW)] ++ T0)) m (exec st (envOfC qual scope c.L 802 cdv)) (nxt w c rest (envOfC qual scope c.L 802 cdv) PF) := by
  have : PySem.Challenge.rw_sj0101_01.row.prog = PySem.Challenge.rw_sj0101_01.row.prog → heapK = heapK → True := by
    k_fill
    exact fun _ _ => trivial
  clear this
  refine fn_lit ho ?_
  clear ho
  intro e1 e2 e3 e4
  subst e1 e2 e3 e4
  simp only [List.drop_succ_cons, List.drop_zero] at k ⊢
  rintro st rest e
  injection e with e1 e2
  subst e1; subst e2
  k_with "mem_MLaw3" => (first | assumption | exact .head _ | (refine .tail _ ?_; k_extra "mem_MLaw3"))
  refine J.forC he R (by rfl) (fun i l1 m' => m' = m ∧ ∃ oW kvs ls, l1.Perm ([(unA, lsO #[.int 3 t3, .int 4 t4, .int 5 t5, .int 6 t6] nU), (p5, o5), (p4, o4), (p3, o3), (p2, o2), (p1, o1), (p0, o0), (ptA, lsO #[.ref p0, .ref p1, .ref p2, .ref p3, .ref p4, .ref p5] nP), (woA, oO), (wtA, oW)] ++ (ls ++ T0)) ∧ oW.IsDictOf (PySem.intKind PR w) kvs ∧ WtI pt i ls kvs) ?_
  refine J.name he m3 ?_
  refine ⟨unA, _, nU, oU, v0, _, rfl, .refl _, dU, by k_extra "mem_MLaw3", ⟨rfl, oW, [], [], .refl _, dW, .zero⟩, ?_, ?_⟩
  · rintro i v I oI oK l1 m' hv ⟨rfl, oW, kvs, ls, pm, dW, wi⟩ dK
    obtain ⟨tv, rfl, i4⟩ := four_at hv
    refine J.perm ((pm.cons _).cons _) ?_
    have zk : kvs.length ≤ 3000 := Nat.le_trans wi.len (by lia)
    k_with "name_MLaw3" => (first | exact m1 | exact m2 | exact m3)
    k_with "l3_MLaw3" => ((with_reducible refine (?_ : J _ _ _ _ (eval (.Name _ _) _) _)); refine J.name he (by k_extra "name_MLaw3") ?_)
    k_with "mem3_MLaw3" => (first | assumption | (first | exact hq_l _) | exact .head _ | (refine .tail _ ?_; k_extra "mem3_MLaw3"))
    k_with "l3_MLaw3" => ((with_reducible refine (?_ : J _ _ _ _ (eval (.ListComp _ _ _ _) _) _)); refine J.compI (n := 6) R (fun p => S48 * pt p (3 + (i : Int))) (by decide) (by with_unfolding_all rfl) ?_)
    k_with "l3_MLaw3" => ((with_reducible refine (?_ : KCompI _ _ _ _ _ _ _ _ _ _ _ _ _ _ _)); refine ⟨rfl, rfl, ptA, _, rfl, .inr ⟨_, by k_extra "mem_MLaw3", rfl, _, rfl⟩, rfl, ?_, ?_⟩; (focus (intro j_l vp_l I2_l oI2_l C_l oC_l D_l ys_l mm_l hv2_l ns_l hx_l; obtain ⟨a_l, ea_l, la_l⟩ := six_at hv2_l; subst ea_l; obtain ⟨o_l, hm_l, po_l, lo_l⟩ := hp j_l a_l la_l; have hq_l : ∀ r, (a_l, o_l) ∈ (p5, o5) :: (p4, o4) :: (p3, o3) :: (p2, o2) :: (p1, o1) :: (p0, o0) :: r := fun r => List.mem_append_left r hm_l)); rotate_left; (focus (intro ys_l D_l hys_l)); rotate_right)
    k_with "l3_MLaw3" => ((with_reducible refine (?_ : J _ _ _ _ (getMethod (.ref _) (Str.ofString "get") _) _)); refine J.ptmethM (by k_extra "mem3_MLaw3") po_l ?_)
    k_with "l3_MLaw3" => ((with_reducible refine (?_ : J _ _ _ _ (PySem.call (.builtin "dict.get") _) _)); refine J.ptgetM (by k_extra "mem3_MLaw3") po_l lo_l (by lia) (by lia) ?_; intro t_l)
    k_with "l3_MLaw3" => ((with_reducible refine J.mulInt ?_ ?_); (focus (exact hb _ _)); intro t_l)
    k_with "l3_MLaw3" => ((with_reducible refine (?_ : KElt _ _ _ _ _ _)); refine ⟨rfl, _, rfl, [], rfl⟩)
    k_with "l3_MLaw3" => ((with_reducible refine (?_ : J _ _ _ _ (subscriptTail _ _ (Value.ref woA) (Value.str _ _)) _)); refine J.kitem (PySem.strKind PR _) _ (by k_extra "nth") dO (strKind_is _ _ _ _) hw ?_)
    repeat' (first | k_extra "l3_MLaw3" | k_extra "law" | k_extra "j")
    exact ⟨rfl, oK, _, _, ⟨_, (List.perm_middle (l₁ := [_, _])).symm, List.Sublist.refl _⟩, dK, by k_extra "mem_MLaw3", rfl, _, _, (D_l, lsO ys_l.toArray ys_l.length) :: ls, (List.perm_middle (l₁ := [_, _, _, _, _, _, _, _, _, _])).symm, by assumption, wi.step (Six.of hys_l)⟩
  · rintro l1 m' oK v ⟨rfl, oW, kvs, ls, pm, dW, wi⟩ dK
    refine nxt_next ?_
    refine J.perm (pm.cons _) ?_
    exact k oK v oW kvs ls dK dW wi
end
end Mine

open PySem PySem.W PySem.Calls PyProof.Rows
set_option Elab.async false
set_option linter.all false
set_option maxRecDepth 100000
set_option maxHeartbeats 40000000
namespace Mine
section
variable {w : World} {c : Cx} {D ls : Led} {W : Wd} {fe ce unA nU ptA nP woA wtA blA exA p0 p1 p2 p3 p4 p5 : Nat} {b c1 c2 c3 c4 : Int} {tb t3 t4 t5 t6 : Tok} {ns as rs : Array Value} {oO oW oB o0 o1 o2 o3 o4 o5 ox : Obj} {kvs : List (Int × Value)}
noncomputable abbrev ledF (ptA nP woA wtA blA p0 p1 p2 p3 p4 p5 : Nat) (oO oW oB : Obj) (ls D : Led) : Led := [(ptA, lsO #[.ref p0, .ref p1, .ref p2, .ref p3, .ref p4, .ref p5] nP), (woA, oO), (wtA, oW)] ++ (ls ++ ((blA, oB) :: D))
noncomputable abbrev led6 (unA nU p0 p1 p2 p3 p4 p5 : Nat) (o0 o1 o2 o3 o4 o5 : Obj) (t3 t4 t5 t6 : Tok) : Led := [(unA, lsO #[.int 3 t3, .int 4 t4, .int 5 t5, .int 6 t6] nU), (p5, o5), (p4, o4), (p3, o3), (p2, o2), (p1, o1), (p0, o0)]
theorem LpD.start (T : TlD c (Stg w W fe ce ⟨7, ⟨T7 b, ns, as, rs⟩⟩) (stgA W fe ce) D) (wi : WtI (ptF c1 c2 c3 c4) 4 ls kvs) (dW : oW.IsDictOf (PySem.intKind PR w) kvs) (dB : oB.IsDictOf (PySem.intKind PR w) [])
    (dO : oO.IsDictOf (PySem.strKind PR w) [((Str.ofString "bank"), .ref W.bA), ((Str.ofString "base"), .int b tb), ((Str.ofString "points"), .ref ptA), ((Str.ofString "worth"), .ref wtA), ((Str.ofString "below"), .ref blA)])
    (hp : ∀ i : Nat, ∀ a, [p0, p1, p2, p3, p4, p5][i]? = some a → ∃ o, (a, o) ∈ [(p5, o5), (p4, o4), (p3, o3), (p2, o2), (p1, o1), (p0, o0)] ∧ PtO w o (ptF c1 c2 c3 c4 i) ∧ (a == sysModules) = false)
    (nd : Nd ((exA, ox) :: (led6 unA nU p0 p1 p2 p3 p4 p5 o0 o1 o2 o3 o4 o5 t3 t4 t5 t6 ++ ledF ptA nP woA wtA blA p0 p1 p2 p3 p4 p5 oO oW oB ls D))) :
    LpD w c (vdOf W fe ce ptA woA wtA blA b tb p0 p1 p2 p3 p4 p5 nP exA) 7 4 (sg0 b c1 c2 c3 c4) (ptF c1 c2 c3 c4) unA nU t3 t4 t5 t6 (led6 unA nU p0 p1 p2 p3 p4 p5 o0 o1 o2 o3 o4 o5 t3 t4 t5 t6 ++ ledF ptA nP woA wtA blA p0 p1 p2 p3 p4 p5 oO oW oB ls D) := by
  obtain ⟨V, eV⟩ : ∃ V, V = vdOf W fe ce ptA woA wtA blA b tb p0 p1 p2 p3 p4 p5 nP exA := ⟨_, rfl⟩
  have n1 := List.pairwise_cons.mp nd
  have n2 := List.pairwise_append.mp n1.2
  have n3 := List.pairwise_append.mp n2.2.1
  have n4 := List.pairwise_append.mp n3.2.1
  have inF : ∀ q ∈ ledF ptA nP woA wtA blA p0 p1 p2 p3 p4 p5 oO oW oB ls D, q ∈ led6 unA nU p0 p1 p2 p3 p4 p5 o0 o1 o2 o3 o4 o5 t3 t4 t5 t6 ++ ledF ptA nP woA wtA blA p0 p1 p2 p3 p4 p5 oO oW oB ls D := fun q hq => List.mem_append_right _ hq
  have inB : ∀ q ∈ (blA, oB) :: D, q ∈ ledF ptA nP woA wtA blA p0 p1 p2 p3 p4 p5 oO oW oB ls D := fun q hq => List.mem_append_right _ (List.mem_append_right _ hq)
  have hall : ∀ a ∈ V.all, ∃ o, (a, o) ∈ [(ptA, lsO #[.ref p0, .ref p1, .ref p2, .ref p3, .ref p4, .ref p5] nP), (woA, oO), (wtA, oW)] ∨ (a, o) ∈ (blA, oB) :: D := by
    subst eV
    have d : ∀ a ∈ stgA W fe ce, ∃ o, (a, o) ∈ [(ptA, lsO #[.ref p0, .ref p1, .ref p2, .ref p3, .ref p4, .ref p5] nP), (woA, oO), (wtA, oW)] ∨ (a, o) ∈ (blA, oB) :: D := fun a ha => let ⟨o, e⟩ := T.has a ha; ⟨o, .inr (.tail _ e)⟩
    intro a ha
    have ha : a ∈ W.bank ++ [fe, ce, ptA, woA, wtA, blA] := ha
    rcases List.mem_append.mp ha with ha | ha
    · exact d a (.tail _ (.tail _ (List.mem_append_left _ ha)))
    · exact (List.forall_mem_cons.mpr ⟨d _ (.head _), List.forall_mem_cons.mpr ⟨d _ (.tail _ (.head _)), List.forall_mem_cons.mpr ⟨⟨_, .inl (.head _)⟩, List.forall_mem_cons.mpr ⟨⟨_, .inl (.tail _ (.head _))⟩, List.forall_mem_cons.mpr ⟨⟨_, .inl (.tail _ (.tail _ (.head _)))⟩, List.forall_mem_cons.mpr ⟨⟨_, .inr (.head _)⟩, List.forall_mem_nil _⟩⟩⟩⟩⟩⟩ : ∀ a ∈ [fe, ce, ptA, woA, wtA, blA], ∃ o, (a, o) ∈ [(ptA, lsO #[.ref p0, .ref p1, .ref p2, .ref p3, .ref p4, .ref p5] nP), (woA, oO), (wtA, oW)] ∨ (a, o) ∈ (blA, oB) :: D) a ha
  have hallF : ∀ a ∈ V.all, ∃ o, (a, o) ∈ ledF ptA nP woA wtA blA p0 p1 p2 p3 p4 p5 oO oW oB ls D := fun a ha => let ⟨o, e⟩ := hall a ha; ⟨o, e.elim (fun e => List.mem_append_left _ e) (inB _)⟩
  have six : ∀ q ∈ led6 unA nU p0 p1 p2 p3 p4 p5 o0 o1 o2 o3 o4 o5 t3 t4 t5 t6, q.1 ∉ V.all := fun q hq ha => by
    obtain ⟨o, e⟩ := hallF _ ha
    exact n2.2.2 q hq _ e rfl
  have exN : V.exA ∉ V.all := fun ha => by
    obtain ⟨o, e⟩ := hallF _ ha
    exact n1.1 _ (inF _ e) (by rw [eV])
  have hls : ∀ p ∈ ls, p.1 ∉ V.off := fun p hp q => by
    rcases List.mem_cons.mp q with q | q
    · exact n1.1 p (inF _ (List.mem_append_right _ (List.mem_append_left _ hp))) (by rw [q, eV])
    · obtain ⟨o, e | e⟩ := hall _ q
      · exact n3.2.2 _ e p (List.mem_append_left _ hp) rfl
      · exact n4.2.2 p hp _ e rfl
  rw [← eV]
  have pN : ∀ i, i < 6 → V.pA i ∉ V.all := fun i hi => by
    have : i = 0 ∨ i = 1 ∨ i = 2 ∨ i = 3 ∨ i = 4 ∨ i = 5 := by lia
    subst eV
    rcases this with rfl | rfl | rfl | rfl | rfl | rfl
    · exact six (p0, o0) (.tail _ (.tail _ (.tail _ (.tail _ (.tail _ (.tail _ (.head _)))))))
    · exact six (p1, o1) (.tail _ (.tail _ (.tail _ (.tail _ (.tail _ (.head _))))))
    · exact six (p2, o2) (.tail _ (.tail _ (.tail _ (.tail _ (.head _)))))
    · exact six (p3, o3) (.tail _ (.tail _ (.tail _ (.head _))))
    · exact six (p4, o4) (.tail _ (.tail _ (.head _)))
    · exact six (p5, o5) (.tail _ (.head _))
  refine ⟨fun h l m O s ⟨vs, n, ex⟩ => ?_, fun a ha => ?_, six _ (.head _), pN, exN⟩
  · have st := T.at_ h l m O fun p hp => s p (inF _ (inB _ (.tail _ hp)))
    have g : ∀ q ∈ ledF ptA nP woA wtA blA p0 p1 p2 p3 p4 p5 oO oW oB ls D, h.get? q.1 = some q.2 := fun q hq => (O.N q (s q (inF q hq))).1
    have g6 : ∀ q ∈ led6 unA nU p0 p1 p2 p3 p4 p5 o0 o1 o2 o3 o4 o5 t3 t4 t5 t6, h.get? q.1 = some q.2 := fun q hq => (O.N q (s q (List.mem_append_left _ hq))).1
    subst eV
    refine ⟨⟨st.1.1, st.2, oO, oW, oB, _, _, ⟨g _ (.head _), g _ (.tail _ (.head _)), g _ (.tail _ (.tail _ (.head _))), g _ (inB _ (.head _)), dO, dW, dB, fun k => ?_, fun k => rfl, wi.len, Nat.zero_le _, ⟨exN, vs, n, ex⟩⟩⟩, g6 _ (.head _), fun i hi => ?_⟩
    · by_cases q : 3 ≤ k ∧ k < 7
      · have e : (sg0 b c1 c2 c3 c4).wt k = some (fun i => S48 * ptF c1 c2 c3 c4 i k) := if_pos q
        rw [e]
        obtain ⟨a, vs, n, e1, e2, e3⟩ := wi.at_ (k - 3).toNat (by lia)
        have ek : 3 + ((k - 3).toNat : Int) = k := by lia
        rw [ek] at e1 e3
        exact ⟨a, vs, n, e1, hls _ e2, g _ (List.mem_append_right _ (List.mem_append_left _ e2)), e3⟩
      · have e : (sg0 b c1 c2 c3 c4).wt k = none := if_neg q
        rw [e]
        exact wi.no k (by lia)
    · have hx : ∃ a, [p0, p1, p2, p3, p4, p5][i]? = some a ∧ (vdOf W fe ce ptA woA wtA blA b tb p0 p1 p2 p3 p4 p5 nP exA).pA i = a := by
        have : i = 0 ∨ i = 1 ∨ i = 2 ∨ i = 3 ∨ i = 4 ∨ i = 5 := by lia
        rcases this with rfl | rfl | rfl | rfl | rfl | rfl <;> exact ⟨_, rfl, rfl⟩
      obtain ⟨a, e1, e2⟩ := hx
      obtain ⟨o, m, ⟨kv, d, hv⟩, lo⟩ := hp i a e1
      rw [e2]
      exact ⟨o, kv, g6 _ (.tail _ m), d, lo, hv⟩
  · rcases List.mem_cons.mp ha with rfl | ha
    · exact ⟨_, .head _⟩
    · rcases List.mem_append.mp ha with ha | ha
      · obtain ⟨o, e⟩ := hallF a ha
        exact ⟨o, inF _ e⟩
      · subst eV
        exact (List.forall_mem_cons.mpr ⟨⟨_, .tail _ (.tail _ (.tail _ (.tail _ (.tail _ (.tail _ (.head _))))))⟩, List.forall_mem_cons.mpr ⟨⟨_, .tail _ (.tail _ (.tail _ (.tail _ (.tail _ (.head _)))))⟩, List.forall_mem_cons.mpr ⟨⟨_, .tail _ (.tail _ (.tail _ (.tail _ (.head _))))⟩, List.forall_mem_cons.mpr ⟨⟨_, .tail _ (.tail _ (.tail _ (.head _)))⟩, List.forall_mem_cons.mpr ⟨⟨_, .tail _ (.tail _ (.head _))⟩, List.forall_mem_cons.mpr ⟨⟨_, .tail _ (.head _)⟩, List.forall_mem_nil _⟩⟩⟩⟩⟩⟩ :
          ∀ a ∈ [p0, p1, p2, p3, p4, p5], ∃ o, (a, o) ∈ led6 unA nU p0 p1 p2 p3 p4 p5 o0 o1 o2 o3 o4 o5 t3 t4 t5 t6 ++ ledF ptA nP woA wtA blA p0 p1 p2 p3 p4 p5 oO oW oB ls D) a ha
theorem J.nd {α : Type} {l : Led} {m : Mp} {t : PySem.Sem α} {PA : α → Led → Mp → Prop} (k : Nd l → J w c l m t PA) : J w c l m t PA := fun h tk O => k O.nd h tk O
end
end Mine

open PySem PySem.W PySem.Calls PyProof.Rows
set_option Elab.async false
set_option linter.all false
set_option maxRecDepth 100000
set_option maxHeartbeats 40000000
namespace Mine
section
variable {prog : Program} {w : World} {A : Around} {E : Value → Shared → Prop} {s : Shared} {env : Env} {h₀ : Heap} {x : Str} {body : List Stmt} {Q : Flow → Shared → Prop}
theorem rangeJO {r : Addr} {b : Int} {t u v : Tok} {n : Nat} {m : Str → Option Value} {news : List (Addr × Obj)} (hh : A.handled = none) (hr : IsRange s.heap r 0 b 1 t u v) (hs : Builtin.Range.small 0 b 1 = true) (hn : Builtin.Range.rangeSize 0 b 1 = (n : Int))
    (F : Fr h₀ env.locals s.heap m) (N : News h₀ env.locals s.heap news) (J : Nat → (Str → Option Value) → List (Addr × Obj) → Prop) (h0 : J 0 m news)
    (turn : ∀ i v m₁ news₁ h tk own, i < n → J i m₁ news₁ → (∀ p ∈ own, ∃ xs, p.2.data = .fields xs) → OwnOff own (news₁.map (·.1)) → Fr h₀ env.locals h (fun y => if y = x then some v else m₁ y) → News h₀ env.locals h (news₁ ++ own) →
      wpAny (model prog w) A (execs body env) (TurnJ h₀ env.locals own (J (i + 1)) { s with heap := h, toks := tk } Q) E { s with heap := h, toks := tk })
    (done : ∀ m₁ news₁ h tk, J n m₁ news₁ → Fr h₀ env.locals h m₁ → News h₀ env.locals h news₁ → Q .next { s with heap := h, toks := tk }) :
    wpAny (model prog w) A (pyIter (.ref r)) (fun it s₂ => LoopAtV prog w A h₀ env x body Q E it s₂) E s := by
  refine wpAny_pyIter_range hr hs ?_
  refine loopJO (Ow := fun own => ∀ p ∈ own, ∃ xs, p.2.data = .fields xs) (Walks.range hh _ 0 1 n) ?_ (fun i h st b hb => ?_) (fun hm => ?_) (fun q hq hm => ?_) (fun i h own st hf hg p hp => ?_) F N J h0 (fun i v m₁ news₁ h tk own hi _ hJ ho => turn i v m₁ news₁ h tk own hi hJ ho) done
  · show IsRangeIter _ _ _ _ _
    rw [hn]; simpa using Heap.get?_push_size _ rfl
  · rw [List.mem_singleton.mp hb]
    exact ⟨_, st⟩
  · exact absurd F.ns.lt ((List.mem_singleton.mp hm) ▸ Nat.lt_irrefl _)
  · exact absurd (Heap.lt_size (N q hq).1) ((List.mem_singleton.mp hm) ▸ Nat.lt_irrefl _)
  · have e := hg p hp
    rw [List.mem_singleton.mp (hf p hp)] at e
    have st : h.get? s.heap.objs.size = some _ := st
    rw [st] at e
    rw [← Option.some.inj e]
    exact ⟨_, rfl⟩
theorem tupleL {l : Addr} {items : List Value} {m : Str → Option Value} {news : List (Addr × Obj)} (hh : A.handled = none)
    (F : Fr h₀ env.locals s.heap m) (N : News h₀ env.locals s.heap ((l, tupO items) :: news)) (hl : ∀ q ∈ news, q.1 ≠ l) (J : Nat → (Str → Option Value) → List (Addr × Obj) → Prop) (h0 : J 0 m news)
    (turn : ∀ i v m₁ news₁ h tk own, i < items.length → items[i]? = some v → J i m₁ news₁ → OwnOff own (news₁.map (·.1)) → Fr h₀ env.locals h (fun y => if y = x then some v else m₁ y) → News h₀ env.locals h (news₁ ++ own) →
      wpAny (model prog w) A (execs body env) (TurnJ h₀ env.locals own (J (i + 1)) { s with heap := h, toks := tk } Q) E { s with heap := h, toks := tk })
    (done : ∀ m₁ news₁ h tk, J items.length m₁ news₁ → Fr h₀ env.locals h m₁ → News h₀ env.locals h news₁ → Q .next { s with heap := h, toks := tk }) :
    wpAny (model prog w) A (pyIter (.ref l)) (fun it s₂ => LoopAtV prog w A h₀ env x body Q E it s₂) E s := by
  have hh0 := N (l, tupO items) (.head _)
  have hg := hh0.1
  have ht : s.heap.IsTuple l items.toArray := ⟨_, hg, rfl, _, rfl⟩
  have hne : l ≠ s.heap.objs.size := Nat.ne_of_lt (Heap.lt_size hg)
  refine wpAny_pyIter_tuple ht ?_
  refine loopJO (Ow := fun _ => True) (Walks.tuple hh _ l hne items.toArray) ⟨⟨_, Heap.get?_push_size _ rfl, rfl, rfl⟩, ht.at fun o e => Heap.get?_push_of_some _ e⟩ (fun i h st b hb => ?_) (fun hm => ?_) (fun q hq hm => ?_) (fun _ _ _ _ _ _ => trivial) F (fun p hp => N p (.tail _ hp)) J h0 (fun i v m₁ news₁ h tk own hi hv hJ _ ho => turn i v m₁ news₁ h tk own (by simpa using hi) (by simpa using hv) hJ ho) (by simpa using done)
  · obtain ⟨⟨o, e, _⟩, ⟨o2, e2, _⟩⟩ := st
    simp only [List.mem_cons, List.not_mem_nil, or_false] at hb
    rcases hb with rfl | rfl
    · exact ⟨o, e⟩
    · exact ⟨o2, e2⟩
  · simp only [List.mem_cons, List.not_mem_nil, or_false] at hm
    rcases hm with e | e
    · exact absurd F.ns.lt (e ▸ Nat.lt_irrefl _)
    · exact hh0.2.1 e.symm
  · simp only [List.mem_cons, List.not_mem_nil, or_false] at hm
    rcases hm with e | e
    · exact absurd (Heap.lt_size (N q (.tail _ hq)).1) (e ▸ Nat.lt_irrefl _)
    · exact hl q hq e
end
end Mine

open PySem PySem.W PySem.Calls PyProof.Rows
set_option Elab.async false
set_option linter.all false
set_option maxRecDepth 100000
set_option maxHeartbeats 40000000
namespace Mine
section
variable {w : World} {c : Cx} {l : Led} {m : Mp} {PF : Flow → Led → Mp → Prop} {env : Env} {x : Str} {px pos : Pos} {iter : Expr} {body : List Stmt} {N : Nat}
theorem turn_ofO {h : Heap} {tk : Nat} {own l1 : Led} {m1 : Mp} {v : Value} {Inv : Led → Mp → Prop} {Q : Flow → Shared → Prop} (nd : Nd l1) (off : OwnOff own (l1.map (·.1))) (F : Fr c.g c.L h (fun y => if y = x then some v else lk m1 y)) (N : News c.g c.L h (l1 ++ own))
    (turn : ∀ own', (∀ p ∈ own', p ∈ own) → OwnOff own' (l1.map (·.1)) → J w c (l1 ++ own') ((x, v) :: m1) (execs body env) (TurnE own' Inv)) :
    wpAny (model PR w) c.A (execs body env) (TurnJ c.g c.L own (fun mf l' => ∃ m', mf = lk m' ∧ Nd l' ∧ Inv l' m') (c.st h tk) Q) noE (c.st h tk) := by
  obtain ⟨own', n', e'⟩ := nd_of own fun p hp q hq e => by
    have h1 := (N p (List.mem_append_right _ hp)).1
    have h2 := (N q (List.mem_append_right _ hq)).1
    rw [e, h2] at h1
    exact Prod.ext e (Option.some.inj h1).symm
  have off' : OwnOff own' (l1.map (·.1)) := fun p hp => off p ((e' p).mp hp)
  have O : Own c (l1 ++ own') ((x, v) :: m1) h := ⟨lk_put ▸ F, fun p hp => N p (by
    rcases List.mem_append.mp hp with q | q
    · exact List.mem_append_left _ q
    · exact List.mem_append_right _ ((e' p).mp q)), nd_app nd n' off'⟩
  refine (turn own' (fun p hp => (e' p).mp hp) off').run O fun fl l2 m2 h2 tk2 O2 ⟨hf, l3, cut, inv⟩ => ?_
  obtain ⟨n3, o3⟩ := cut.nd O2.nd
  have sub := cut.sub
  have r : ∃ h' tk m' news', (c.st h2 tk2) = { c.st h tk with heap := h', toks := tk } ∧ Fr c.g c.L h' m' ∧ News c.g c.L h' (own ++ news') ∧ OwnOff own (news'.map (·.1)) ∧ ∃ m'', m' = lk m'' ∧ Nd news' ∧ Inv news' m'' :=
    ⟨h2, tk2, _, l3, rfl, O2.F, fun p hp => O2.N p (sub p (by
      rcases List.mem_append.mp hp with q | q
      · exact List.mem_append_left _ ((e' p).mpr q)
      · exact List.mem_append_right _ q)), fun p hp => o3 p ((e' p).mpr hp), m2, rfl, n3, inv⟩
  rcases hf with rfl | rfl <;> exact r
inductive KForRO (w : World) (c : Cx) (PF : Flow → Led → Mp → Prop) (env : Env) (x : Str) (body : List Stmt) (Inv : Nat → Led → Mp → Prop) (xv : Value) (l : Led) (m : Mp) : Prop
  | mk (r : Addr) (b : Int) (t u v : Tok) (n : Nat) (e : xv = .ref r) (hr : (r, rgO 0 b 1 t u v) ∈ l) (hsm : Builtin.Range.small 0 b 1 = true) (hn : Builtin.Range.rangeSize 0 b 1 = ((n : Nat) : Int)) (h0 : Inv 0 l m)
      (turn : ∀ i v l1 m1 own, i < n → Inv i l1 m1 → (∀ p ∈ own, ∀ xs n, p.2.data ≠ .seq xs n) → OwnOff own (l1.map (·.1)) → J w c (l1 ++ own) ((x, v) :: m1) (execs body env) (TurnE own (Inv (i + 1)))) (done : ∀ l1 m1, Inv n l1 m1 → PF .next l1 m1) : KForRO w c PF env x body Inv xv l m
theorem J.forRO (he : EnvX c env) (R : Rm c N) (Inv : Nat → Led → Mp → Prop) (k : J w c l m (eval iter env) (KForRO w c PF env x body Inv))
    (hx : autoParam (env.kindOf x = some .local) Mine.aT3._auto_1) (hs : autoParam (∀ x, foldedSetIterable iter env x = pure x) Mine.aT9._auto_1) : J w c l m (exec (.For (.Name x px) iter body [] pos) env) PF := fun h tk O => by
  obtain ⟨cn, cs, a, ccd, cl, rfl, hk⟩ := he
  obtain ⟨dp, un, fr, gd, eA, _⟩ := R
  refine For_invV c.g hx (by show (cs.kind == .class || (cs.kind == .module && _)) = false; rw [hk]; rfl) (k.run O ?_) hs (by passes_own)
  rintro xv l m h tk O ⟨r, b, t, u, v, n, rfl, hr, hsm, hn, h0, turn, done⟩
  exact rangeJO (by rw [eA]) (O.N _ hr).1 hsm hn O.F O.N (fun i mf l1 => ∃ m1, mf = lk m1 ∧ Nd l1 ∧ Inv i l1 m1) ⟨m, rfl, O.nd, h0⟩
    (fun i v m₁ news₁ h tk own hi ⟨m1, e, nd, inv⟩ ow off F N => by subst e; exact turn_ofO nd off F N fun own' s off => turn i v news₁ m1 own' hi inv (fun p hp xs n e => by obtain ⟨ys, q⟩ := ow p (s p hp); rw [q] at e; cases e) off)
    fun m₁ news₁ h tk ⟨m1, e, nd, inv⟩ F N => by subst e; exact ⟨_, _, _, _, rfl, ⟨F, N, nd⟩, done _ _ inv⟩
theorem J.postS {α : Type} {t : PySem.Sem α} {PA : α → Led → Mp → Prop} (k : J w c l m t (fun v l m => ∃ l', SubP l' l ∧ PA v l' m)) : J w c l m t PA := fun h tk O =>
  k.run O fun _ _ _ _ _ O ⟨_, s, p⟩ => ⟨_, _, _, _, rfl, s.own O, p⟩
theorem Kt.app {D : Led} : ∀ {Y : Led}, (∀ p ∈ Y, NotTup p.2) → Kt D (Y ++ D) Y
  | [], _ => .nil
  | _ :: _, h => .keep (h _ (.head _)) (Kt.app fun p hp => h p (.tail _ hp))
end
end Mine

open PySem PySem.W PySem.Calls PyProof.Rows
set_option Elab.async false
set_option linter.all false
set_option maxRecDepth 100000
set_option maxHeartbeats 40000000
namespace Mine
structure LapM (V : Vd) (unA : Addr) (here ahead : Int) (ht at_ : Tok) (m : Mp) : Prop where
  q0 : m.lookup (Str.ofString "chain") = some (.ref V.exA)
  q1 : m.lookup (Str.ofString "world") = some (.ref V.woA)
  q2 : m.lookup (Str.ofString "here") = some (.int here ht)
  q3 : m.lookup (Str.ofString "ahead") = some (.int ahead at_)
  q4 : m.lookup (Str.ofString "unknowns") = some (.ref unA)
  q5 : m.lookup (Str.ofString "bank") = some (.ref V.W.bA)
inductive LapJ (w : World) (c : Cx) (V : Vd) (pt : Nat → Int → Int) (unA nU : Nat) (t3 t4 t5 t6 : Tok) (oU oF : Obj) (k : Nat) (l : Led) (m : Mp) : Prop
  | mk (σ : Sg) (i z : Nat) (here ahead : Int) (ht at_ : Tok) (cv : Array Value) (nC : Nat) (ks : List Int) (D J : Led) (pm : l.Perm ((V.exA, lsO cv nC) :: (c.L + 1 + 1, oU) :: (c.L + 1, oF) :: (J ++ D))) (hJ : ∀ p ∈ J, ∀ xs n, p.2.data ≠ .seq xs n)
      (M : LapM V unA here ahead ht at_ m) (B : LpD w c V i z σ pt unA nU t3 t4 t5 t6 D) (S : LapI V pt k σ i z here ahead cv ks) : LapJ w c V pt unA nU t3 t4 t5 t6 oU oF k l m
section
variable {w : World} {c : Cx}
theorem law_4 {m : Mp} {PF : Flow → Led → Mp → Prop} (G : Gc w c) (R : Rm c 39) {name qual : Str} {params : Arguments} {body : List Stmt} {scope : Scope} {dV kV doc pm cdv ct oc : Value} {an od : Option Addr} {osl : Array (Option Value)} (ho : (heapK w.params).lookup 802 = some ⟨oc, od, .func (fnOf name qual params body scope dV kV doc pm an cdv ct), osl⟩)
    (he : EnvX c (envOfC qual scope c.L 802 cdv)) {V : Vd} (vok : V.Ok) {oU oF : Obj} {v0 : Option Value} {unA nU nC : Nat} {t3 t4 t5 t6 ht at_ : Tok} {D : Led} {σ : Sg} {here ahead : Int} {pt : Nat → Int → Int} (dU : oU.data = .cell v0) (dF : oF.data = .cell (some (.ref V.feA)))
    (B : LpD w c V 7 4 σ pt unA nU t3 t4 t5 t6 D) (S : LapI V pt 0 σ 7 4 here ahead #[] [])
    (m0 : m.lookup (Str.ofString "chain") = some (.ref V.exA)) (m1 : m.lookup (Str.ofString "world") = some (.ref V.woA)) (m2 : m.lookup (Str.ofString "here") = some (.int here ht)) (m3 : m.lookup (Str.ofString "ahead") = some (.int ahead at_)) (m4 : m.lookup (Str.ofString "unknowns") = some (.ref unA)) (m5 : m.lookup (Str.ofString "bank") = some (.ref V.W.bA))
    (k : ∀ k l m, 26 ≤ k → k ≤ 31 → LapJ w c V pt unA nU t3 t4 t5 t6 oU oF k l m → J w c l m (execs (body.drop 10) (envOfC qual scope c.L 802 cdv)) PF) :
    J w c ((V.exA, lsO #[] nC) :: (c.L + 1 + 1, oU) :: (c.L + 1, oF) :: D) m (execs (body.drop 9) (envOfC qual scope c.L 802 cdv)) PF := by
  have : PySem.Challenge.rw_sj0101_01.row.prog = PySem.Challenge.rw_sj0101_01.row.prog → heapK = heapK → True := by
    k_fill
    exact fun _ _ => trivial
  clear this
  refine fn_lit ho ?_
  clear ho
  intro e1 e2 e3 e4
  subst e1 e2 e3 e4
  simp only [List.drop_succ_cons, List.drop_zero] at k ⊢
  have fl : ∀ {o : Obj} {v : Option Value}, o.data = .cell v → ∀ xs n, o.data ≠ .seq xs n := fun h xs n e => by rw [h] at e; cases e
  refine J.cons ?_
  refine J.forRO he R (LapJ w c V pt unA nU t3 t4 t5 t6 oU oF) ?_
  k_with "l4_MLaw4" => ((with_reducible refine (?_ : J _ _ _ _ (PySem.call (.ref 758) _) _)); refine J.pickL (wide := 6) G R vok B (.keep .ls (.keep (.cell dU) (.keep (.cell dF) .nil))) (List.forall_mem_cons.mpr ⟨.inr rfl, List.forall_mem_cons.mpr ⟨.inl (fl dU), List.forall_mem_cons.mpr ⟨.inl (fl dF), List.forall_mem_nil _⟩⟩⟩) ⟨_, _, .head _⟩ (by decide) (by decide) ?_; intro c_l t_l R_l h0_l h1_l B_l)
  k_with "l4_MLaw4" => ((with_reducible refine (?_ : J _ _ _ _ (PySem.call (.type "range") _) _)); refine J.range ?_; intro d_l t1_l t2_l)
  k_with "l4_MLaw4" => ((with_reducible refine (?_ : J _ _ _ _ (callWith _ (.type _) _ _ _) _)); refine J.ty ?_)
  repeat' (first | k_extra "l4_MLaw4" | k_extra "law" | k_extra "j")
  refine ⟨_, _, _, _, _, (26 + c_l).toNat, rfl, .head _, small_up (by lia) (by lia), range_up (by lia), ?_, ?_, ?_⟩
  · exact ⟨σ, 8, 4, here, ahead, ht, at_, #[], nC, [], R_l, [_], (List.perm_middle (l₁ := [_, _, _])).symm, List.forall_mem_cons.mpr ⟨(fun xs n e => nomatch e), List.forall_mem_nil _⟩, ⟨m0, m1, m2, m3, m4, m5⟩, B_l, ⟨S.sem, S.H, S.A, S.ia, S.len, S.fine, by decide, S.bz, S.bl⟩⟩
  · rintro k1 v1 l1 mm own hk ⟨σ', i', z', he', ah', ht', at', cv, nC', ks, D', J', pm, hJ, ⟨q0, q1, q2, q3, q4, q5⟩, B', S'⟩ ow off
    have hk1 : k1 < 32 := by lia
    have hcz : cv.size < 100 := by
      have h1 := S'.ia.length
      rw [Array.length_toList, S'.len] at h1
      lia
    obtain ⟨Y, eY⟩ : ∃ Y, Y = J' ++ own := ⟨_, rfl⟩
    have hY : ∀ p ∈ Y, ∀ xs n, p.2.data ≠ .seq xs n := fun p hp => (List.mem_append.mp (eY ▸ hp)).elim (hJ p) (ow p)
    have pY : (l1 ++ own).Perm ((V.exA, lsO cv nC') :: (c.L + 1 + 1, oU) :: (c.L + 1, oF) :: (Y ++ D')) := by
      refine (pm.append_right own).trans (.cons _ (.cons _ (.cons _ ?_)))
      show ((J' ++ D') ++ own).Perm (Y ++ D')
      rw [eY, List.append_assoc, List.append_assoc]
      exact List.Perm.append_left _ List.perm_append_comm
    refine J.perm pY (J.postS ?_)
    clear pm pY off B S m0 m1 m2 m3 m4 m5 B_l
    k_with "name_MLaw4" => (first | rfl | exact q0 | exact q1 | exact q2 | exact q3 | exact q4 | exact q5)
    k_with "l4_MLaw4" => ((with_reducible refine (?_ : J _ _ _ _ (eval (.Name _ _) _) _)); refine J.name he (by k_extra "name_MLaw4") ?_)
    k_with "l4_MLaw4" => ((with_reducible refine (?_ : J _ _ _ _ (PySem.call (.ref 780) _) _)); refine J.nextW G R vok B' S' hk1 (.keep .ls (.keep (.cell dU) (.keep (.cell dF) (.app fun p hp => .inr (hY p hp))))) (List.forall_mem_cons.mpr ⟨.inr rfl, List.forall_mem_cons.mpr ⟨.inl (fl dU), List.forall_mem_cons.mpr ⟨.inl (fl dF), fun p hp => .inl (hY p hp)⟩⟩⟩) ⟨_, _, .head _⟩ ?_; intro late_l t_l s1_l i1_l R1_l B1_l S1_l)
    k_with "l4_MLaw4" => ((with_reducible refine (?_ : J _ _ _ _ (exec (.Assign [.Tuple _ _ _] _ _) _) _)); refine J.tupS he R [Str.ofString "ahead", Str.ofString "here"] ?_)
    k_with "l4_MLaw4" => ((with_reducible refine (?_ : KTupS _ _ _ _ _)); refine ⟨_, _, rfl, .head _, rfl, ?_⟩)
    repeat' (first | k_extra "l4_MLaw4" | k_extra "law" | k_extra "j")
    have pZ : (Y ++ R1_l).Perm ((J' ++ R1_l) ++ own) := by
      rw [eY, List.append_assoc, List.append_assoc]
      exact List.Perm.append_left _ List.perm_append_comm
    exact ⟨_, ⟨_, .cons _ (.cons _ (.cons _ (.cons _ pZ))), .cons _ (List.Sublist.refl _)⟩, .inl rfl, (V.exA, _) :: (c.L + 1 + 1, oU) :: (c.L + 1, oF) :: (J' ++ R1_l), .keep (.keep (.keep Cut.all)), s1_l, i1_l, z' + 2, late_l, he', t_l, ht', cv.push (.int late_l t_l), nC' + 1, ks ++ [late_l], R1_l, J', .refl _, hJ, ⟨q0, q1, rfl, rfl, q4, q5⟩, B1_l, S1_l _⟩
  · rintro l1 mm hJ
    refine nxt_next ?_
    exact k _ l1 mm (by lia) (by lia) hJ
end
end Mine

open PySem PySem.W PySem.Calls PyProof.Rows
set_option Elab.async false
set_option linter.all false
set_option maxRecDepth 100000
set_option maxHeartbeats 40000000
namespace Mine
theorem mvf {A ls E : Led} {b f : Addr × Obj} : (A ++ (ls ++ b :: f :: E)).Perm (f :: (A ++ (ls ++ b :: E))) := by
  have e : ∀ X : Led, A ++ (ls ++ b :: X) = (A ++ (ls ++ [b])) ++ X := fun X => by simp
  rw [e (f :: E), e E]
  exact List.perm_middle
theorem pts6 {w : World} {p0 p1 p2 p3 p4 p5 : Nat} {o0 o1 o2 o3 o4 o5 : Obj} {kvs : List (Int × Value)} {g : Int → Int} (d0 : o0.IsDictOf (PySem.intKind PR w) []) (l0 : (p0 == sysModules) = false)
    (po : (PtO w o1 fun u => if u = 3 + ((0 : Nat) : Int) then 1 else 0) ∧ (PtO w o2 fun u => if u = 3 + ((1 : Nat) : Int) then 1 else 0) ∧ (PtO w o3 fun u => if u = 3 + ((2 : Nat) : Int) then 1 else 0) ∧ PtO w o4 fun u => if u = 3 + ((3 : Nat) : Int) then 1 else 0)
    (so : (p1 == sysModules) = false ∧ (p2 == sysModules) = false ∧ (p3 == sysModules) = false ∧ (p4 == sysModules) = false) (dr : DrI 4 kvs g) (d5 : o5.IsDictOf (PySem.intKind PR w) kvs) (l5 : (p5 == sysModules) = false) :
    ∀ i : Nat, ∀ a, [p0, p1, p2, p3, p4, p5][i]? = some a → ∃ o, (a, o) ∈ [(p5, o5), (p4, o4), (p3, o3), (p2, o2), (p1, o1), (p0, o0)] ∧ PtO w o (ptF (g 3) (g 4) (g 5) (g 6) i) ∧ (a == sysModules) = false := by
  intro i a e
  match i, e with
  | 0, e => cases e; exact ⟨o0, by simp, ⟨_, d0, fun u _ _ t0 => ⟨t0, by simp [valueAt, ptF]⟩⟩, l0⟩
  | 1, e => cases e; exact ⟨o1, by simp, po.1.congr fun u _ _ => by simp [ptF], so.1⟩
  | 2, e => cases e; exact ⟨o2, by simp, po.2.1.congr fun u _ _ => by simp [ptF], so.2.1⟩
  | 3, e => cases e; exact ⟨o3, by simp, po.2.2.1.congr fun u _ _ => by simp [ptF], so.2.2.1⟩
  | 4, e => cases e; exact ⟨o4, by simp, po.2.2.2.congr fun u _ _ => by simp [ptF], so.2.2.2⟩
  | 5, e =>
    cases e
    refine ⟨o5, by simp, ⟨_, d5, fun u h1 h2 t0 => ?_⟩, l5⟩
    obtain ⟨t, ev⟩ := dr.v u h1 (by lia)
    refine ⟨t, ?_⟩
    rw [ev]
    have : u = 3 ∨ u = 4 ∨ u = 5 ∨ u = 6 := by lia
    rcases this with rfl | rfl | rfl | rfl <;> rfl
  | i + 6, e => simp at e
section
variable {w : World} {c : Cx}
theorem law_2 {m0 : Mp} {PF : Flow → Led → Mp → Prop} (G : Gc w c) (R : Rm c 39) {name qual : Str} {params : Arguments} {body : List Stmt} {scope : Scope} {dV kV doc pm cdv ct oc : Value} {an od : Option Addr} {osl : Array (Option Value)} (ho : (heapK w.params).lookup 802 = some ⟨oc, od, .func (fnOf name qual params body scope dV kV doc pm an cdv ct), osl⟩)
    (he : EnvX c (envOfC qual scope c.L 802 cdv)) (lo : @LT.lt Nat _ 100 c.L) {W : Wd} {fe ce unA nU : Nat} (sk : SOk W fe ce) {b : Int} {tb t3 t4 t5 t6 : Tok} {ns as rs : Array Value} {oU oF : Obj} {v1 v2 : Value} {D : Led} (hb : b = 1 ∨ b = 2) (dU : oU.data = .cell none) (dF : oF.data = .cell (some (.ref fe))) (T0 : TlD c (Stg w W fe ce ⟨1, ⟨T7 b, ns, as, rs⟩⟩) (stgA W fe ce) D)
    (k10 : ∀ (V : Vd) (unA nU : Nat) (t3 t4 t5 t6 : Tok) (oU oF : Obj) (pt : Nat → Int → Int) (k : Nat) (l : Led) (m : Mp), V.Ok → oF.data = .cell (some (.ref V.feA)) → (∃ v, oU.data = .cell v) → 26 ≤ k → k ≤ 31 → LapJ w c V pt unA nU t3 t4 t5 t6 oU oF k l m → J w c l m (execs (body.drop 10) (envOfC qual scope c.L 802 cdv)) PF) :
    ∀ st rest, body.drop 4 = st :: rest → J w c ((unA, lsO #[.int 3 t3, .int 4 t4, .int 5 t5, .int 6 t6] nU) :: ([(c.L + 1 + 1, oU), (c.L + 1, oF)] ++ D)) (((Str.ofString "unknowns"), .ref unA) :: ((Str.ofString "x"), v1) :: ((Str.ofString "y"), v2) :: ((Str.ofString "base"), .int b tb) :: ((Str.ofString "bank"), .ref W.bA) :: m0) (exec st (envOfC qual scope c.L 802 cdv)) (nxt w c rest (envOfC qual scope c.L 802 cdv) PF) := by
  have : PySem.Challenge.rw_sj0101_01.row.prog = PySem.Challenge.rw_sj0101_01.row.prog → heapK = heapK → True := by
    k_fill
    exact fun _ _ => trivial
  clear this
  refine fn_lit ho ?_
  clear ho
  intro e1 e2 e3 e4
  subst e1 e2 e3 e4
  simp only [List.drop_succ_cons, List.drop_zero] at k10 ⊢
  rintro st rest e
  injection e with e1 e2
  subst e1; subst e2
  have kb : ∀ {D : Led}, Kt D ([(c.L + 1 + 1, oU), (c.L + 1, oF)] ++ D) [(c.L + 1 + 1, oU), (c.L + 1, oF)] := .keep (.cell dU) (.keep (.cell dF) .nil)
  k_with "mem_MLaw2" => (first | assumption | exact .head _ | (refine .tail _ ?_; k_extra "mem_MLaw2"))
  k_with "l2_MLaw2" => ((with_reducible refine (?_ : J _ _ _ _ (exec (.Assign [.Tuple _ _ _] _ _) _) _)); refine J.tupS he R [Str.ofString "here", Str.ofString "ahead"] ?_)
  k_with "l2_MLaw2" => ((with_reducible refine (?_ : KTupS _ _ _ _ _)); refine ⟨_, _, rfl, .head _, rfl, ?_⟩)
  k_with "l2_MLaw2" => ((with_reducible refine (?_ : J _ _ _ _ (PySem.call (.ref 758) _) _)); rename TlD _ (Stg _ _ _ _ _) _ _ => T9; refine J.pickS (wide := 4) G R sk T9 (.keep .ls kb) (by decide) (by decide) ?_; intro c_l t_l R_l h0_l h1_l T_l dr_l; clear dr_l)
  k_with "l2_MLaw2" => ((with_reducible refine (?_ : J _ _ _ _ (subscriptTail _ _ (Value.ref _) (Value.int _ _)) _)); refine J.unkL _ (by k_extra "nth") (by assumption) (by assumption) ?_; intro t_l)
  k_with "l2_MLaw2" => ((with_reducible refine (?_ : J _ _ _ _ (eval (.Dict [] _ _) _) _)); (first | refine J.dict0H G ?_ | refine J.dict0 G ?_); intro d_l o_l lt_l lo_l hi_l hs_l; clear hs_l)
  repeat' (first | k_extra "l2_MLaw2" | k_extra "law" | k_extra "j")
  have Rh : c.A.handled = none := by
    obtain ⟨_, _, _, _, e, _⟩ := R
    rw [e]
  k_with "l2_MLaw2" => ((with_reducible refine (?_ : J _ _ _ _ (eval (.ListComp (.Dict _ _ _) _ _ _) _) _)); refine J.compPt Rh (fun i u => if u = 3 + (i : Int) then 1 else 0) (by with_unfolding_all rfl) ?_)
  k_with "l2_MLaw2" => ((with_reducible refine (?_ : KCompPt _ _ _ _ _ _ _ _ _ _ _ _ _ _)); refine ⟨rfl, rfl, unA, _, nU, rfl, by k_extra "mem_MLaw2", Nat.le_of_ble_eq_true rfl, ?_, ?_⟩; (focus (intro i_l v_l I_l oI_l C_l oC_l D_l ys_l l1_l m2_l hv_l ns_l hx_l; obtain ⟨t_l, ev_l, i4_l⟩ := four_at hv_l; subst ev_l)); rotate_left; (focus (intro ys_l D_l l1_l pl_l; obtain ⟨p1_l, p2_l, p3_l, p4_l, q1_l, q2_l, q3_l, q4_l, e1_l, e2_l, po_l, so_l⟩ := pl_l.four; subst e1_l; subst e2_l)); rotate_right)
  k_with "l2_MLaw2" => ((with_reducible refine J.dict1 ?_ ?_); (focus assumption); intro d9 o9 lo9)
  k_with "l2_MLaw2" => ((with_reducible refine (?_ : KDict1 _ _ _ _ _ _ _ _)); refine ⟨_, _, _, rfl, by k_extra "upf", fun o7 hd7 => ?_⟩)
  k_with "l2_MLaw2" => ((with_reducible refine (?_ : KPtE _ _ _ _ _ _ _)); refine ⟨rfl, _, _, rfl, rfl, .one (by assumption), by assumption⟩)
  k_with "l2_MLaw2" => ((with_reducible refine (?_ : J _ _ _ _ (binaryOp .Add (.ref _) (.ref _)) _)); refine J.addLO _ _ (by k_extra "nth") (by k_extra "nth") (Nat.le_of_ble_eq_true rfl) ?_; intro d_l n_l lt_l)
  repeat' (first | k_extra "l2_MLaw2" | k_extra "law" | k_extra "j")
  refine J.sl (.cons₂ _ (.cons _ (.cons₂ _ (.cons₂ _ (.cons₂ _ (.cons₂ _ (.cons _ (.cons₂ _ (.cons _ (List.Sublist.refl _)))))))))) ?_
  rename TlD _ (Stg _ _ _ _ _) _ _ => T9
  show J _ _ ([_, _, _, _, _, _, _, _, _] ++ _) _ _ _
  refine J.dcompD Rh T9 (by with_unfolding_all rfl) ?_
  k_with "l2_MLaw2" => ((with_reducible refine (?_ : KDcompD _ _ _ _ _ _ _ _ _ _ _ _ _ _ _ _ _ _ _ _ _ _)); refine ⟨rfl, rfl, unA, _, nU, rfl, by k_extra "mem_MLaw2", Nat.le_of_ble_eq_true rfl, fun i v hv => ?_, ?_, ?_⟩; (focus (obtain ⟨t_l, ev_l, i4_l⟩ := four_at hv; subst ev_l; exact intKind_is _ _ _ _)); (focus (intro i_l v_l I_l oI_l C_l oC_l D_l oD_l D1_l m2_l hv_l ns_l hx_l nI_l nC_l nD_l T_l; obtain ⟨t_l, ev_l, i4_l⟩ := four_at hv_l; subst ev_l; clear T9)); rotate_left; (focus (intro g_l kvs_l D_l oD_l D1_l ltD_l dr_l dD_l T_l; clear T9)); rotate_right)
  k_with "l2_MLaw2" => ((with_reducible refine (?_ : J _ _ _ _ (PySem.call (.ref 758) _) _)); rename TlD _ (Stg _ _ _ _ _) _ _ => T9; refine J.pickS (wide := 2001) G R sk T9 (.keep nI_l (.keep nC_l (.keep nD_l (.keep .ls (.keep po_l.2.2.2.nt (.keep po_l.2.2.1.nt (.keep po_l.2.1.nt (.keep po_l.1.nt (.keep (.dict hi_l) (.keep .ls kb)))))))))) (by lia) (by decide) ?_; clear T9; intro c_l t_l R_l h0_l h1_l T_l dr_l; clear dr_l)
  k_with "l2_MLaw2" => ((with_reducible refine (?_ : KDrE _ _ _ _ _ _ _ _)); refine ⟨rfl, _, _, _, rfl, ⟨by lia, by lia⟩, rfl, by assumption⟩)
  k_with "l2_MLaw2" => ((with_reducible refine (?_ : J _ _ _ _ (eval (.Dict _ _ _) _) _)); refine J.dictS G ?_; intro d_l o_l lt_l lo_l)
  k_with "l2_MLaw2" => ((with_reducible refine J.pcons ?_))
  k_with "l2_MLaw2" => ((with_reducible refine J.pnil ?_))
  k_with "l2_MLaw2" => ((with_reducible refine (?_ : KDictS _ _ _ _ _ _ _)); refine ⟨_, by k_extra "upf", rfl, (by dsimp only [strPairs, List.map]; decide), ?_⟩; intro o_l d_l)
  repeat' (first | k_extra "l2_MLaw2" | k_extra "law" | k_extra "j")
  rename_i tz9 ca tz8 Ra ha0 ha1 tz7 tz6 tz5 tz4 d8 p0 o0 lt0 lo0 hi0 l6 L4 l5 n5 lt5 l5b ptA ltPt woA oW0 ltWo loWo tb1 tb2 tb3 tb4 wtA oW ltWt loWt hiW blA oB
  have drawn : Drawn4 (g_l 3) (g_l 4) (g_l 5) (g_l 6) := ⟨dr_l.b 3, dr_l.b 4, dr_l.b 5, dr_l.b 6⟩
  have hpt := pts6 (w := w) hi0 lo0 po_l so_l dr_l dD_l (lo_of (Nat.lt_trans (show 1 < c.L by exact Nat.lt_trans (by decide) lo) (ltD_l (c.L + 1, oF) (by k_extra "mem_MLaw2") |> fun h => Nat.lt_trans (Nat.lt_succ_self _) h)))
  refine J.sl (.cons₂ _ (.cons₂ _ (.cons₂ _ (.cons₂ _ (.cons _ (.cons₂ _ (.cons _ (List.Sublist.refl _)))))))) ?_
  refine J.perm perm12 ?_
  refine law_3 G R (by k_is) he dU d_l rfl hiW hpt drawn.mul rfl rfl rfl ?_ _ _ rfl
  intro oU1 vU oW1 kvs1 ls dU1 dW1 wi
  refine J.cons ?_
  refine J.assign he ?_
  refine J.list ?_
  refine J.arg0 ?_
  refine NewL.mk (Nat.le_of_ble_eq_true rfl) ?_
  intro exA
  refine nxt_next ?_
  refine J.perm (.cons _ (.cons _ mvf)) ?_
  refine J.nd fun nd => ?_
  have nd := nd.sublist (.cons₂ _ (.cons _ (.cons _ (List.Sublist.refl _))))
  have B := LpD.start (T := T_l) wi dW1 hi_l d_l hpt nd
  obtain ⟨on, eon⟩ := T_l.has W.nA (.tail _ (.tail _ (List.mem_append_left _ Wd.mem.2.2.2.2.2.2)))
  have vok : (vdOf W fe ce ptA woA wtA blA b tb p0 p1_l p2_l p3_l p4_l D_l n_l exA).Ok := ⟨sk.wok, sk.a1, sk.a2, ltPt (W.nA, on) (by k_extra "mem_MLaw2"), ltWo _ (.head _), ltWt, lt_l, hb⟩
  refine law_4 G R (by k_is) he vok dU1 dF B (here := 3 + ca) (ahead := 3 + c_l) (ht := tz7) (at_ := tz4) ⟨sem0 drawn, here0 drawn ⟨ha0, ha1⟩, ahead0 drawn ⟨h0_l, h1_l⟩, .nil, rfl, (fun _ h => nomatch h), by decide, by decide, Nat.le_of_ble_eq_true rfl⟩ ?_ ?_ ?_ ?_ ?_ ?_ ?_
  iterate 6 (focus rfl)
  intro k l m h1 h2 hJ
  exact k10 _ _ _ _ _ _ _ _ _ _ k l m vok dF ⟨_, dU1⟩ h1 h2 hJ
end
end Mine

open PySem PySem.W PySem.Calls PyProof.Rows
set_option Elab.async false
set_option linter.all false
set_option maxRecDepth 100000
set_option maxHeartbeats 40000000
namespace Mine
section
variable {w : World} {mean : ExcName → Option Value} {mg mb : Str → Option Value} {dp un : Nat} {fr : Option (List Env)} {gd : Option (List Code)} {s : Shared} {E : Value → Shared → Prop} {Q : Value → Shared → Prop} {hb : Heap}
theorem law_head (G : Gd w mean mg mb hb) (kp : ∀ b o, hb.get? b = some o → s.heap.get? b = some o) (R : Room dp un 40) (scA : Nat) (vs : List Value) (ns : List Int) (hsc : s.heap.IsList scA vs.toArray) (hin : IntsAre vs ns) (hlen : vs.length ≤ 63)
    {name qual : Str} {params : Arguments} {body : List Stmt} {scope : Scope} {dV kV doc pm cdv ct oc : Value} {an od : Option Addr} {osl : Array (Option Value)} (ho : (heapK w.params).lookup 802 = some ⟨oc, od, .func (fnOf name qual params body scope dV kV doc pm an cdv ct), osl⟩)
    (hQ : ∀ h' tk', Keep [] s.heap h' → Q (.bool true) { s with heap := h', toks := tk' })
    (h5 : ∀ {c : Cx} {PF : Flow → Led → Mp → Prop} (_ : Gc w c) (_ : Rm c 39) (_ : EnvX c (envOfC qual scope c.L 802 cdv)) (_ : ∀ l m, PF (.ret (.bool true)) l m) (V : Vd) (unA nU : Nat) (t3 t4 t5 t6 : Tok) (oU oF : Obj) (pt : Nat → Int → Int) (k : Nat) (l : Led) (m : Mp), V.Ok → oF.data = .cell (some (.ref V.feA)) → (∃ v, oU.data = .cell v) → 26 ≤ k → k ≤ 31 →
      LapJ w c V pt unA nU t3 t4 t5 t6 oU oF k l m → J w c l m (execs (body.drop 10) (envOfC qual scope c.L 802 cdv)) PF) :
    wpAny (model PySem.Challenge.rw_sj0101_01.row.prog w) (AR dp un fr gd) (call (.ref 802) [.ref scA]) Q E s := by
  have X₀ := G.X
  revert X₀
  k_fill
  intro X₀
  clear X₀
  refine fn_lit ho ?_
  clear ho
  intro e1 e2 e3 e4
  subst e1 e2 e3 e4
  refine call_JC (n := 39) [] [((Str.ofString "script"), .ref scA)] (fun L => [(L + 1 + 1, none), (L + 1, none)]) [((Str.ofString "script"), .ref scA)] R G kp (fun _ h => nomatch h) .nil ?_ (hvn := two_cells)
  intro c G R he en cells Y
  obtain ⟨oU, oF, dU, dF, rfl⟩ := Y.two
  refine J.lo G fun lo => ?_
  have hsl : c.g.IsList scA vs.toArray := by
    obtain ⟨o, e, r⟩ := hsc
    exact ⟨o, en.gs _ _ List.not_mem_nil e, r⟩
  rw [List.append_nil]
  k_with "la_MLaw1" => ((with_reducible refine (?_ : J _ _ _ _ (exec (.Assign [.Tuple [.Name (Str.ofString "feed") _, .Name (Str.ofString "bank") _] _ _] _ _) _) _)); refine J.tupFC he R (by rfl) ?_)
  k_with "la_MLaw1" => ((with_reducible refine (?_ : J _ _ _ _ (exec (.Assign [.Tuple [.Name (Str.ofString "x") _, .Name (Str.ofString "y") _] _ _] _ _) _) _)); refine J.tupS he R [Str.ofString "x", Str.ofString "y"] ?_)
  k_with "la_MLaw1" => ((with_reducible refine (?_ : KDictS _ _ _ _ _ _ _)); refine ⟨_, by k_extra "upf", rfl, (by dsimp only [strPairs, List.map]; decide), ?_⟩; intro o_l d_l)
  k_with "nt1_MLaw1" => (first | exact NotTup.ls | exact NotTup.cell (by assumption) | exact NotTup.dict (by assumption))
  k_with "ntall_MLaw1" => (first | exact List.forall_mem_nil _ | (refine List.forall_mem_cons.mpr ⟨?_, ?_⟩; (focus (k_extra "nt1_MLaw1")); k_extra "ntall_MLaw1"))
  k_with "la_MLaw1" => ((with_reducible refine (?_ : J _ _ _ _ (PySem.call (.ref 656) _) _)); refine J.bank0 G R (by k_extra "ntall_MLaw1") ⟨(c.L + 1, oF), .tail _ (.tail _ (.tail _ (.tail _ (.head _)))), Nat.lt_succ_of_lt lo⟩ ?_; intro W R_l wok lt_l T_l)
  k_with "la_MLaw1" => ((with_reducible refine (?_ : KTupFC _ _ _ _ _ _)); refine ⟨_, _, _, _, _, _, rfl, .head _, by k_extra "upf", dF, ?_⟩; intro o_l h_l)
  k_with "la_MLaw1" => ((with_reducible refine (?_ : J _ _ _ _ (eval (.Dict _ _ _) _) _)); refine J.dictS G ?_; intro d_l o_l lt_l lo_l)
  k_with "la_MLaw1" => ((with_reducible refine J.pcons ?_))
  k_with "la_MLaw1" => ((with_reducible refine J.pnil ?_))
  k_with "la_MLaw1" => ((with_reducible refine (?_ : J _ _ _ _ (eval (.Subscript _ (.Slice _ _ _ _) _) _) _)); refine J.sliceTo (A := scA) (vs := vs) (ns := ns) ?_)
  k_with "la_MLaw1" => ((with_reducible refine (?_ : _ = Value.ref _ ∧ c.g.IsList _ _ ∧ _)); refine ⟨rfl, hsl, by rw [sizeLine_eq]; simp; lia, hin, by decide, ?_⟩; intro d_l zs_l lt_l hz_l)
  k_with "la_MLaw1" => ((with_reducible refine (?_ : J _ _ _ _ (callWith _ (.type _) _ _ _) _)); refine J.ty ?_)
  k_with "la_MLaw1" => ((with_reducible refine (?_ : J _ _ _ _ (PySem.call (.type "list") _) _)); refine J.listOfL _ (by k_extra "nth") (by have := hz_l.length; rw [List.length_take] at this; lia) ?_; intro d_l n_l lt_l)
  repeat' (first | k_extra "la_MLaw1" | k_extra "law" | k_extra "j")
  rename_i fe o0 lt0 tc D1 lt1 ce lt2 ta tz o1 dF1 tup0
  have sk : SOk W fe ce := ⟨wok, Nat.lt_trans (lt1 _ (.head _)) lt2, lt_l _ (.head _)⟩
  have T0 := Stg.start (fe := fe) (n := n_l) T_l dF1 hz_l (Nat.le_trans (List.length_take_le _ _) (Nat.le_of_ble_eq_true rfl))
  refine J.sl (.cons₂ _ (.cons _ (.cons₂ _ (.cons _ (.cons₂ _ (.cons₂ _ (.cons₂ _ (List.Sublist.refl _)))))))) ?_
  refine J.perm (((List.perm_append_comm (l₁ := [_, _]) (l₂ := [_, _])).append_right _).cons _) ?_
  clear dF1 hz_l lt_l T_l lt0 lt1 lt2
  k_with "mem_MLaw1" => (first | assumption | exact .head _ | (refine .tail _ ?_; k_extra "mem_MLaw1"))
  have kb : ∀ {D : Led}, Kt D ([(c.L + 1 + 1, oU), (c.L + 1, o_l)] ++ D) [(c.L + 1 + 1, oU), (c.L + 1, o_l)] := .keep (.cell dU) (.keep (.cell h_l) .nil)
  k_with "lb_MLaw1" => ((with_reducible refine (?_ : J _ _ _ _ (PySem.call (.ref 758) _) _)); rename TlD _ (Stg _ _ _ _ _) _ _ => T9; refine J.pickS (wide := 2) G R sk T9 (.drop kb) (by decide) (by decide) ?_; intro c_l t_l R_l h0_l h1_l T_l dr_l; have mt_l := dr_l _ (.here kb); clear dr_l)
  k_with "lb_MLaw1" => ((with_reducible refine (?_ : J _ _ _ _ (subscriptTail _ _ (Value.ref _) (Value.int _ _)) _)); refine J.pairI (by k_extra "mem_MLaw1") (by assumption) (by assumption) ?_; intro b_l t_l hb_l)
  k_with "lb_MLaw1" => ((with_reducible refine (?_ : J _ _ _ _ (PySem.call (.ref 193) _) _)); rename TlD _ (Stg _ _ _ _ _) _ _ => T9; (first | refine J.freshS (n := 0) (j := 3) G R sk T9 kb rfl rfl (Nat.le_of_ble_eq_true rfl) (Nat.le_of_ble_eq_true rfl) (new_x _) ?_ | refine J.freshS (n := 1) (j := 4) G R sk T9 kb rfl rfl (Nat.le_of_ble_eq_true rfl) (Nat.le_of_ble_eq_true rfl) (new_y _) ?_); intro bT_l t_l R_l T_l dr_l; clear dr_l)
  k_with "lb_MLaw1" => ((with_reducible refine (?_ : KTupS _ _ _ _ _)); refine ⟨_, _, rfl, .head _, rfl, ?_⟩)
  k_with "lb_MLaw1" => ((with_reducible refine (?_ : J _ _ _ _ (PySem.call (.ref 179) _) _)); rename TlD _ (Stg _ _ _ _ _) _ _ => T9; refine J.declS (n := 2) G R sk T9 (.drop (.drop kb)) (fun h O => ⟨_, O.N.get (.head _), rfl, _, rfl⟩) rfl (Nat.le_of_ble_eq_true rfl) ?_; intro t_l R_l T_l dr_l; have mt_l := dr_l _ (.here (.drop kb)); clear dr_l)
  k_with "lb_MLaw1" => ((with_reducible refine (?_ : J _ _ _ _ (PySem.call (.ref 417) _) _)); rename TlD _ (Stg _ _ _ _ _) _ _ => T9; refine J.appS (q := 2) (x := 3) (j := 5) G R sk T9 (.drop kb) (.head _) (fun h O => fun q => T9.offH O (fun p hp => .tail _ (.tail _ hp)) (.tail _ (.tail _ q))) (by k_extra "mem_MLaw1") (by decide) (by decide) rfl rfl rfl (by decide) (by decide) rfl rfl (Nat.le_of_ble_eq_true rfl) rfl (new_f _) ?_; intro t_l R_l T_l dr_l; clear dr_l)
  k_with "lb_MLaw1" => ((with_reducible refine (?_ : J _ _ _ _ (PySem.call (.ref 270) _) _)); rename TlD _ (Stg _ _ _ _ _) _ _ => T9; refine J.makeS (x := 3) (y := 4) (d := 0) (j := 6) G R sk T9 (.drop kb) (by decide) (.head _) (Nat.le_of_ble_eq_true rfl) rfl (new_p _) ?_; intro t_l R_l T_l dr_l; clear dr_l)
  k_with "lb_MLaw1" => ((with_reducible refine (?_ : J _ _ _ _ (getMethod (Value.ref W.bA) _ _) _)); rename TlD _ (Stg _ _ _ _ _) _ _ => T9; refine J.methB G T9.bkS (fun p hp => by k_extra "mem_MLaw1") (by k_get) (by k_is) (by k_is) (by k_is) ?_)
  repeat' (first | k_extra "la_MLaw1" | k_extra "lb_MLaw1" | k_extra "law" | k_extra "j")
  rename TlD _ (Stg _ _ _ _ _) _ _ => T9
  refine law_2 G R (by k_is) he lo sk hb_l dU h_l T9 (h5 G R he ?_) _ _ rfl
  intro l m h tk O K
  exact hQ _ _ K
end
end Mine

open PySem PySem.W PySem.Calls PyProof.Rows
set_option Elab.async false
set_option linter.all false
set_option maxRecDepth 100000
set_option maxHeartbeats 40000000
namespace Mine
section
variable {prog : Program} {w : World} {A : Around} {E : Value → Shared → Prop} {s : Shared} {h₀ : Heap} {L d : Addr} {m : Str → Option Value} {news : List (Addr × Obj)} {Q : Value → Shared → Prop}
theorem ints_of_get : ∀ {vs : List Value} {ns : List Int}, vs.length = ns.length → (∀ (j : Nat) (v : Value), vs[j]? = some v → ∃ k t, ns[j]? = some k ∧ v = .int k t) → IntsAre vs ns
  | [], [], _, _ => .nil
  | v :: vs, n :: ns, e, h => by
    obtain ⟨k, t, e1, rfl⟩ := h 0 v rfl
    cases e1
    exact .cons _ _ (ints_of_get (by simpa using e) fun j u hu => h (j + 1) u hu)
theorem sorted_dict {kvs : List (Int × Value)} (hh : A.handled = none) (F : Fr h₀ L s.heap m) (N : News h₀ L s.heap news) (hd : s.heap.DictOf (PySem.intKind prog w) d kvs) (lo : (d == sysModules) = false) (hn : kvs.length < 64)
    (h : ∀ (D : Addr) (h' : Heap) (tk : Nat) (out : Array Value) (ns : List Int) (c : Nat), Fr h₀ L h' m → News h₀ L h' ((D, lsO out c) :: news) → (∀ q ∈ news, q.1 < D) → IntsAre out.toList ns → ns.Perm (kvs.map (·.1)) → ns.Pairwise (· ≤ ·) → Q (.ref D) { s with heap := h', toks := tk }) :
    wpAny (model prog w) A (call (.builtin "sorted") [.ref d]) Q E s := by
  obtain ⟨ep, hat⟩ := hd.dictAt
  refine kdu_sorted (kdl_dict (knd := PySem.intKind prog w) (kvs := kvs) (ep := ep) lo) hh F N hat (by rw [sizeLine_eq]; lia) fun D h' tk vs F' N' l1 hl hv => ?_
  have hI : IntsAre vs (kvs.map (·.1)) := ints_of_get (by rw [hl, List.length_map]) fun j v e => by
    obtain ⟨k, x, e1, e2⟩ := hv j v e
    obtain ⟨t, rfl⟩ := Value.isInt_shape e2
    exact ⟨k, t, by rw [List.getElem?_map, e1]; rfl, rfl⟩
  have hD := (N' _ List.mem_cons_self).1
  refine wpAny_call_entry slot_list_sort ⟨_, hD, rfl⟩ entry_list_sort (list_sort_tree hD hI (by lia) fun out ns a1 a2 a3 => ⟨_, rfl, ?_⟩) (args_list_sort _)
  obtain ⟨c, hc⟩ := sortedHeap_at (out := out) hD
  have old : ∀ b o, b ≠ D → h'.get? b = some o → (sortedHeap h' D vs out).get? b = some o := fun b o hb e => by
    rw [sortedHeap_old hb (Heap.lt_size e)]; exact e
  have nD := (N' _ List.mem_cons_self).2
  refine h D _ tk out ns c ⟨?_, fun b o e => old b o (fun q => by rw [q] at e; rw [nD.2] at e; cases e) (F'.keep b o e), F'.above⟩ (fun p hp => ?_) l1 a1 a2 a3
  · obtain ⟨oL, x1, x2, hL, x3⟩ := F'.ns
    exact ⟨oL, x1, x2, old _ _ (Ne.symm nD.1) hL, x3⟩
  · rcases List.mem_cons.mp hp with rfl | hp
    · exact ⟨hc, nD⟩
    · exact ⟨old _ _ (Nat.ne_of_lt (l1 p hp)) (N' _ (.tail _ hp)).1, (N' _ (.tail _ hp)).2⟩
end
theorem sorted_eq : ∀ {a b : List Int}, a.Perm b → a.Pairwise (· ≤ ·) → b.Pairwise (· ≤ ·) → a = b
  | [], b, p, _, _ => by rw [List.nil_perm.mp p]
  | x :: a, [], p, _, _ => absurd p.length_eq (by simp)
  | x :: a, y :: b, p, ha, hb => by
    have e : x = y := by
      have h1 : x ∈ y :: b := p.mem_iff.mp (.head _)
      have h2 : y ∈ x :: a := p.mem_iff.mpr (.head _)
      have l1 : y ≤ x := by
        rcases List.mem_cons.mp h1 with q | q
        · exact Int.le_of_eq q.symm
        · exact (List.pairwise_cons.mp hb).1 x q
      have l2 : x ≤ y := by
        rcases List.mem_cons.mp h2 with q | q
        · exact Int.le_of_eq q.symm
        · exact (List.pairwise_cons.mp ha).1 y q
      lia
    subst e
    rw [sorted_eq ((List.perm_cons x).mp p) (List.pairwise_cons.mp ha).2 (List.pairwise_cons.mp hb).2]
theorem keys_four {l : List Int} (hn : l.Nodup) (hk : ∀ k ∈ l, 3 ≤ k ∧ k < 7) : l.length ≤ 4 := by
  have h := sumL_four (F := fun _ => 1) hn hk
  have e : sumL (fun _ => 1) l = l.length := by
    unfold sumL
    clear h hn hk
    induction l with
    | nil => rfl
    | cons a l ih => rw [List.map_cons, List.sum_cons, ih, List.length_cons]; lia
  rw [e] at h
  have i1 : ∀ (c : Prop) [Decidable c], (if c then (1 : Int) else 0) ≤ 1 := fun c _ => by split <;> lia
  have := i1 (3 ∈ l); have := i1 (4 ∈ l); have := i1 (5 ∈ l); have := i1 (6 ∈ l)
  lia
theorem told_keys {w : World} {pt : Nat → Int → Int} {σ : Sg} {t : Int} {h : Heap} {o : Obj} {kvs : List (Int × Value)} {p : RF} {c : Int × Int} (d : o.IsDictOf (PySem.intKind PR w) kvs) (r : RatsIn h kvs p) (T : Told pt σ t p c) :
    (∀ k, k ∈ kvs.map (·.1) ↔ 3 ≤ k ∧ k < 7 ∧ Rc σ.bl t k) ∧ kvs.length ≤ 4 := by
  have hn := nodup_of d
  have key : ∀ k, k ∈ kvs.map (·.1) ↔ ∃ x, p k = some x := by
    intro k
    have q := r k
    constructor
    · intro hk
      obtain ⟨⟨k', v⟩, hm, rfl⟩ := List.mem_map.mp hk
      have e := valueAt_of_mem hn hm
      split at q
      · rw [q] at e; cases e
      · rename_i x ex; exact ⟨x, ex⟩
    · rintro ⟨x, ex⟩
      rw [ex] at q
      obtain ⟨a, e, _⟩ := q
      obtain ⟨v, hm⟩ := valueAt_mem e
      exact List.mem_map_of_mem (f := (·.1)) hm
  have all : ∀ k, k ∈ kvs.map (·.1) ↔ 3 ≤ k ∧ k < 7 ∧ Rc σ.bl t k := by
    intro k
    rw [key]
    constructor
    · rintro ⟨x, ex⟩
      obtain ⟨a, b, _⟩ := T.key k x ex
      exact ⟨a, b, (T.rc k a b).mp ⟨x, ex⟩⟩
    · rintro ⟨a, b, r⟩
      exact (T.rc k a b).mpr r
  refine ⟨all, ?_⟩
  have := keys_four hn fun k hk => ⟨((all k).mp hk).1, ((all k).mp hk).2.1⟩
  rwa [List.length_map] at this
theorem told_sorted {w : World} {pt : Nat → Int → Int} {σ : Sg} {t : Int} {h : Heap} {o : Obj} {kvs : List (Int × Value)} {p : RF} {c : Int × Int} (d : o.IsDictOf (PySem.intKind PR w) kvs) (r : RatsIn h kvs p) (T : Told pt σ t p c) {xs ys : List Int}
    (px : xs.Perm (kvs.map (·.1))) (sx : xs.Pairwise (· ≤ ·)) (sy : ys.Pairwise (· ≤ ·)) (ny : ys.Nodup) (hy : ∀ k, k ∈ ys ↔ 3 ≤ k ∧ k < 7 ∧ Rc σ.bl t k) : xs = ys := by
  refine sorted_eq (px.trans ?_) sx sy
  refine (List.perm_ext_iff_of_nodup (nodup_of d) ny).mpr fun k => ?_
  rw [(told_keys d r T).1 k, hy k]
theorem judge_after {g h h' : Heap} {L : Addr} {x dx : Nat} {m : Str → Option Value} {news : List (Addr × Obj)} {o0 o1 ox : Obj} (F : Fr g L h m) (N : News g L h ((x, ox) :: (dx, o0) :: news)) (lt : ∀ p ∈ news, @LT.lt Nat _ p.1 dx) (ltx : dx < x) (K : Keep [dx] h h') (hd : h'.get? dx = some o1) :
    Fr g L h' m ∧ News g L h' ((x, ox) :: (dx, o1) :: news) := by
  have nd := N _ (.tail _ (.head _))
  refine ⟨?_, fun p hp => ?_⟩
  · obtain ⟨oL, es, ep, hL, r⟩ := F.ns
    exact ⟨⟨oL, es, ep, K _ _ (fun q => nd.2.1 (List.mem_singleton.mp q).symm) hL, r⟩, fun b o e => K _ _ (fun q => by rw [List.mem_singleton.mp q, nd.2.2] at e; cases e) (F.keep b o e), F.above⟩
  · rcases List.mem_cons.mp hp with rfl | hp
    · exact ⟨K _ _ (fun q => Nat.ne_of_gt ltx (List.mem_singleton.mp q)) (N _ (.head _)).1, (N _ (.head _)).2⟩
    · rcases List.mem_cons.mp hp with rfl | hp
      · exact ⟨hd, nd.2⟩
      · exact ⟨K _ _ (fun q => Nat.ne_of_lt (lt p hp) (List.mem_singleton.mp q)) (N _ (.tail _ (.tail _ hp))).1, (N _ (.tail _ (.tail _ hp))).2⟩
section
variable {w : World} {c : Cx} {l : Led} {m : Mp} {P : Value → Led → Mp → Prop} {N : Nat}
theorem J.judge {bk : Value} (G : Gc w c) (R : Rm c N) (k : ∀ (x dx : Nat) jt, (∀ p ∈ l, @LT.lt Nat _ p.1 dx) → @LT.lt Nat _ dx x → P (.ref x) ((x, instObj 733 dx) :: (dx, dictOf [⟨PyData.keyHash w.params (Str.ofString "bank"), .str (Str.ofString "bank") jt, bk⟩] 1) :: l) m) (hN : autoParam (7 ≤ N) Mine.aT2._auto_1) :
    J w c l m (PySem.call (.ref 733) [bk]) P := fun h tk O => by
  obtain ⟨mean, mg, mb, g⟩ := G.gd
  obtain ⟨dp, un, fr, gd, eA, r⟩ := R
  have rdp := r.dp
  have run := r.un
  rw [eA]
  have X₀ := g.X
  have : PySem.Challenge.rw_sj0101_01.row.prog = PySem.Challenge.rw_sj0101_01.row.prog → heapK = heapK → True := by
    k_fill
    exact fun _ _ => trivial
  refine call_cls O.F X₀ O.N (by k_is) (by k_is) (by k_is) ?_
  intro x dx h7 F7 N7 lt7 ltx
  refine judge_init g F7.keep ⟨by (show dp + 1 + 6 < _); lia, by (have hc : (Code.builtin "type.__call__" ⟨(.ref 733 : Value) :: [bk], []⟩).cUnits ≤ 10 := by exact Nat.le_of_ble_eq_true rfl); (show un + (Code.builtin "type.__call__" ⟨(.ref 733 : Value) :: [bk], []⟩).cUnits + 20 * 6 < cLine); lia⟩ x dx bk ltx (N7.get (.head _)) (N7.get (.tail _ (.head _))) (N7 _ (.head _)).2.2 (N7 _ (.tail _ (.head _))).2.2 ?_
  intro h9 tk9 jt hd9 K
  obtain ⟨F6, N6⟩ := judge_after F7 N7 lt7 ltx K hd9
  have nd : Nd ((x, instObj 733 dx) :: (dx, dictOf [⟨PyData.keyHash w.params (Str.ofString "bank"), .str (Str.ofString "bank") jt, bk⟩] 1) :: l) :=
    Nd.cons (List.forall_mem_cons.mpr ⟨ltx, fun q hq => Nat.lt_trans (lt7 q hq) ltx⟩) (Nd.cons lt7 O.nd)
  exact ⟨rfl, h9, tk9, _, _, rfl, ⟨F6, N6, nd⟩, k x dx jt lt7 ltx⟩
theorem J.sizeL {V : Vd} {i z : Nat} {σ : Sg} {pt : Nat → Int → Int} {unA n0 : Nat} {t3 t4 t5 t6 : Tok} {D : Led} (G : Gc w c) (R : Rm c N) (vok : V.Ok) (B : LpD w c V i z σ pt unA n0 t3 t4 t5 t6 D) (s : ∀ p ∈ D, p ∈ l) (ex : ∃ vs n, (V.exA, lsO vs n) ∈ l) (hz : σ.ts.length ≤ 900) (k : ∀ t, P (.int ((σ.ts.length : Int) - 1) t) l m) (hN : autoParam (3 ≤ N) Mine.aT2._auto_1) :
    J w c l m (PySem.call (.ref 263) [.ref V.W.bA]) P :=
  J.con 3 G R hN fun g r _ _ _ O ret => by
    obtain ⟨vs, n, hx⟩ := ex
    have Z := (B.at_ _ _ _ O s ⟨vs, n, (O.N _ hx).1⟩).ws
    exact size_fn g O.F.keep r V.W vok.wok Z.bank (fun a ha => let ⟨_, e⟩ := B.has a (.tail _ (List.mem_append_left _ (Vd.bank_all a ha))); (O.N _ (s _ e)).2.2) hz fun t h' tk' K => ret _ _ _ K fun _ => k t
theorem J.methL {V : Vd} {i z : Nat} {σ : Sg} {pt : Nat → Int → Int} {unA n0 : Nat} {t3 t4 t5 t6 : Tok} {D : Led} {PM : Value × List Value → Led → Mp → Prop} {f : Addr} {name : Str} {pl : PySem.Sem Bool} (G : Gc w c) (B : LpD w c V i z σ pt unA n0 t3 t4 t5 t6 D) (s : ∀ p ∈ D, p ∈ l) (ex : ∃ vs n, (V.exA, lsO vs n) ∈ l) (hv : getL name (bankEs w V.W) = some none)
    (h3 : plainGet (heapK w.params) 656 name = true) (h4 : findIn (heapK w.params) (.ref 656) name = some (some (.ref f))) (h5 : isFn (heapK w.params) (.ref f) = true) (k : PM (.ref f, [.ref V.W.bA]) l m) : J w c l m (getMethod (.ref V.W.bA) name pl) PM := fun h tk O => by
  obtain ⟨vs, n, hx⟩ := ex
  have b := (B.at_ _ _ _ O s ⟨vs, n, (O.N _ hx).1⟩).ws.bank
  exact method_inst O.F G.X (⟨b.inst, rfl, rfl, b.dict⟩ : InstAt h V.W.bA (instObj 656 V.W.dA) 656 (some (dictOf (bankEs w V.W) 14))) h3 h4 h5 hv ⟨_, _, _, _, rfl, O, k⟩
theorem J.reachL {V : Vd} {i z : Nat} {σ : Sg} {pt : Nat → Int → Int} {unA n0 : Nat} {t3 t4 t5 t6 tt : Tok} {D : Led} {t : Int} (G : Gc w c) (R : Rm c N) (vok : V.Ok) (B : LpD w c V i z σ pt unA n0 t3 t4 t5 t6 D) (s : ∀ p ∈ D, p ∈ l) (ex : ∃ vs n, (V.exA, lsO vs n) ∈ l) (sem : Sem V.base pt σ) (bl : σ.ts.length ≤ 200) (fi : Fine σ t)
    (kk : ∀ (a : Addr) (ns : List Int) (vs : Array Value) (n : Nat), IntsAre vs.toList ns → ns.Pairwise (· ≤ ·) → ns.Nodup → (∀ k, k ∈ ns ↔ 3 ≤ k ∧ k < 7 ∧ Rc σ.bl t k) → P (.ref a) ((a, lsO vs n) :: l) m) (hN : autoParam (6 ≤ N) Mine.aT2._auto_1) : J w c l m (PySem.call (.ref 785) [.ref V.woA, .ref unA, .int t tt]) P := fun h tk O => by
  have nn := fi.nn.nw
  obtain ⟨mean, mg, mb, g⟩ := G.gd
  obtain ⟨dp, un, fr, gd, eA, r⟩ := R
  obtain ⟨vx, nx, hx⟩ := ex
  rw [eA]
  have P0 := B.at_ _ _ _ O s ⟨vx, nx, (O.N _ hx).1⟩
  exact reached_fn g O.F.keep (Room.le r hN) V vok P0.ws (fun a ha => let ⟨_, e⟩ := B.has a (.tail _ (List.mem_append_left _ ha)); (O.N _ (s _ e)).2.2) sem unA n0 t3 t4 t5 t6 P0.un B.unN t tt nn.lo nn.hi (by lia) fun a h' tk' ns vs n K e1 e2 hi hp hn hk => ⟨h', tk', _, _, rfl, O.new K e1 e2, kk a ns vs n hi hp hn hk⟩
theorem J.toldL {V : Vd} {i z : Nat} {σ : Sg} {pt : Nat → Int → Int} {unA n0 : Nat} {t3 t4 t5 t6 tt : Tok} {D : Led} {t : Int} {a pA cA : Addr} {oP : Obj} {kP : List (Int × Value)} {p : RF} {c' : Int × Int} (G : Gc w c) (R : Rm c N) (vok : V.Ok) (B : LpD w c V i z σ pt unA n0 t3 t4 t5 t6 D) (s : ∀ p ∈ D, p ∈ l) (ex : ∃ vs n, (V.exA, lsO vs n) ∈ l) (sem : Sem V.base pt σ) (fi : Fine σ t)
    (ha : (a, tupO [.ref pA, .ref cA]) ∈ l) (hp : (pA, oP) ∈ l) (pn : pA ∉ V.all) (dP : oP.IsDictOf (PySem.intKind PR w) kP) (rr : ∀ h, Own c l m h → RatsIn h kP p ∧ RatAt h cA c') (lo : (pA == sysModules) = false) (hl : kP.length < 64) (T : Told pt σ t p c') (k : P (.bool true) l m) (hN : autoParam (12 ≤ N) Mine.aT2._auto_1) :
    J w c l m (PySem.call (.ref 797) [.ref V.woA, .ref a, .int t tt]) P :=
  J.con 12 G R hN fun g r _ _ _ O ret => by
    have nn := fi.nn.nw
    obtain ⟨vs, n, hx⟩ := ex
    have P0 := B.at_ _ _ _ O s ⟨vs, n, (O.N _ hx).1⟩
    have hpp : ∀ i, V.pA i ∉ V.all := fun i => match i with
      | 0 => B.ptN 0 (by decide)
      | 1 => B.ptN 1 (by decide)
      | 2 => B.ptN 2 (by decide)
      | 3 => B.ptN 3 (by decide)
      | 4 => B.ptN 4 (by decide)
      | _ + 5 => B.ptN 5 (by decide)
    exact told_fn g O.F.keep r V vok P0.ws (fun a ha => let ⟨_, e⟩ := B.has a (.tail _ (List.mem_append_left _ ha)); (O.N _ (s _ e)).2.2) sem P0.pts hpp t tt a pA cA oP kP (O.N _ ha).1 (O.N _ hp).1 pn dP (rr _ O).1 (rr _ O).2 lo (by lia) T nn.lo nn.hi nn.w fi.m fun h' tk' K => ret _ _ _ K fun _ => k
theorem J.itemNeg {lA : Addr} {vs : Array Value} {n : Nat} {k : Int} {tk : Tok} {v : Value} {value slice : PySem.Expr} (i : Nat) (h1 : nth l i = some (lA, lsO vs n)) (h0 : k < 0) (h2 : -(vs.size : Int) ≤ k) (h3 : -1000 ≤ k) (hx : vs[(k + vs.size).toNat]? = some v) (h : P v l m)
    (hs : autoParam (subscripted slice false (.ref lA) (.int k tk) = operate [.ref lA, .int k tk] (getItem (.ref lA) (.int k tk))) Mine.aT4._auto_1) : J w c l m (subscriptTail value slice (.ref lA) (.int k tk)) P := fun _ _ O =>
  have hL := News.isList O.N (nth_mem h1)
  tail_any hL.typeIs slot_list_getitem.lookup (wpAny_getItem_list_neg hL h0 h2 (by lia) hx ⟨_, _, _, _, rfl, O, h⟩) hs
theorem J.sortedD {d : Addr} {o : Obj} {kvs : List (Int × Value)} (R : Rm c N) (hm : (d, o) ∈ l) (hd : o.IsDictOf (PySem.intKind PR w) kvs) (lo : (d == sysModules) = false) (hn : kvs.length < 64)
    (k : ∀ (D : Addr) (out : Array Value) (ns : List Int) (n : Nat), IntsAre out.toList ns → ns.Perm (kvs.map (·.1)) → ns.Pairwise (· ≤ ·) → P (.ref D) ((D, lsO out n) :: l) m) : J w c l m (PySem.call (.builtin "sorted") [.ref d]) P := fun h tk O => by
  obtain ⟨_, _, _, _, eA, _⟩ := R
  exact sorted_dict (by rw [eA]) O.F O.N (Heap.dictOf_iff.mpr ⟨o, (O.N _ hm).1, hd⟩) lo hn fun D h' tk' out ns n F' N' lt a1 a2 a3 => ⟨h', tk', _, _, rfl, ⟨F', N', O.nd.cons lt⟩, k D out ns n a1 a2 a3⟩
theorem J.neSame {a b : Addr} {xs ys : Array Value} {ns : List Int} {n1 n2 : Nat} (R : Rm c N) (ha : (a, lsO xs n1) ∈ l) (hb : (b, lsO ys n2) ∈ l) (hx : IntsAre xs.toList ns) (hy : IntsAre ys.toList ns) (k : P (.bool false) l m) (hN : autoParam (4 ≤ N) Mine.aT2._auto_1) : J w c l m (compareOp .NotEq (.ref a) (.ref b)) P := fun h tk O => by
  have hu := R.units
  refine ke_ne_ints (xs := xs.toList) (ys := ys.toList) ⟨_, O.N.get ha, rfl, _, rfl⟩ ⟨_, O.N.get hb, rfl, _, rfl⟩ hx hy (by lia) ?_
  rw [decide_eq_true rfl]
  exact ⟨_, _, _, _, rfl, O, k⟩
end
end Mine

open PySem PySem.W PySem.Calls PyProof.Rows
set_option Elab.async false
set_option linter.all false
set_option maxRecDepth 100000
set_option maxHeartbeats 40000000
namespace Mine
section
variable {w : World} {c : Cx} {l : Led} {m : Mp} {P : Value → Led → Mp → Prop} {PF : Flow → Led → Mp → Prop} {N : Nat} {env : Env}
theorem J.calN {t : PySem.Sem Value} {Res : Value → Heap → Heap → Prop} (n : Nat) (G : Gc w c) (R : Rm c N) (hN : n ≤ N)
    (h : ∀ {mean mg mb} {dp un : Nat} {fr gd} (_ : Gd w mean mg mb c.g) (_ : Room dp un n) h tk (Q : Value → Shared → Prop), Own c l m h → (∀ v h' tk', Keep [] h h' → Res v h h' → Q v (c.st h' tk')) → wpAny (model PR w) (AR dp un fr gd) t Q noE (c.st h tk))
    (k : ∀ v h h' R, Own c l m h → Keep [] h h' → Res v h h' → (∀ h2 l2 m2, Own c l2 m2 h2 → (∀ q ∈ l ++ R, q ∈ l2) → TupKeep h' h2) → (∀ a o, h.get? a = none → h'.get? a = some o → (a, o) ∈ R) → P v (l ++ R) m) : J w c l m t P := fun h0 tk O => by
  obtain ⟨_, _, _, g⟩ := G.gd
  obtain ⟨dp, un, fr, gd, eA, r⟩ := R
  rw [eA]
  refine h g (Room.le r hN) h0 tk _ O fun v h' tk' K res => ?_
  have LN : ∀ p ∈ l, h'.get? p.1 = some p.2 := fun p hp => K _ _ List.not_mem_nil (O.N p hp).1
  obtain ⟨R, F', N', off, eR⟩ := bound O.F O.N K l (fun _ ha => nomatch ha) LN (fun p hp => ⟨_, hp⟩)
  refine ⟨h', tk', l ++ R, m, rfl, ⟨F', N', nd_app O.nd (eR ▸ nd_tail) off⟩, k v h0 h' R O K res (fun h2 l2 m2 O2 s b o xs n e hc hd => ?_) fun a o e1 e2 => ?_⟩
  · by_cases q : b ∈ l.map (·.1)
    · obtain ⟨p, hp, rfl⟩ := List.mem_map.mp q
      have h1 := LN p hp
      rw [e] at h1; cases h1
      exact (O2.N p (s p (List.mem_append_left _ hp))).1
    · exact later F' eR O2.F O2.N (fun p hp => s p (List.mem_append_right _ hp)) b o q (frame_dict F' e hd) e
  · have nf := new_off O.F e1
    refine eR ▸ mem_tailOf.mpr ⟨⟨fun q => ?_, nf.2, nf.1⟩, e2⟩
    obtain ⟨p, hp, rfl⟩ := List.mem_map.mp q
    rw [(O.N _ hp).1] at e1; cases e1
theorem J.linN {V : Vd} {i z : Nat} {σ : Sg} {pt : Nat → Int → Int} {unA n0 : Nat} {t3 t4 t5 t6 jt tt : Tok} {D : Led} {x dx : Nat} {t : Int} (G : Gc w c) (R : Rm c N) (vok : V.Ok) (B : LpD w c V i z σ pt unA n0 t3 t4 t5 t6 D) (s : ∀ p ∈ D, p ∈ l) (ex : ∃ vs n, (V.exA, lsO vs n) ∈ l)
    (sem : Sem V.base pt σ) (bl : σ.ts.length ≤ 200) (mx : (x, instObj 733 dx) ∈ l) (md : (dx, dictOf [⟨PyData.keyHash w.params (Str.ofString "bank"), .str (Str.ofString "bank") jt, .ref V.W.bA⟩] 1) ∈ l) (ltx : dx < x) (ltW : V.W.nA < dx) (fi : Fine σ t)
    (kk : ∀ (a pA cA : Addr) (oP : Obj) (kP : List (Int × Value)) (p : RF) (c' : Int × Int) R, (a, tupO [.ref pA, .ref cA]) ∈ R → (pA, oP) ∈ R → oP.IsDictOf (PySem.intKind PR w) kP → Told pt σ t p c' → (pA == sysModules) = false → pA ∉ V.all → kP.length < 64 →
      (∀ h2 l2 m2, Own c l2 m2 h2 → (∀ q ∈ l ++ R, q ∈ l2) → RatsIn h2 kP p ∧ RatAt h2 cA c') → P (.ref a) (l ++ R) m) (hN : autoParam (16 ≤ N) Mine.aT2._auto_1) : J w c l m (PySem.call (.ref 681) [.ref x, .int t tt]) P := by
  have nn := fi.nn.nw
  refine J.calN (Res := fun v h h' => ∃ (a pA cA : Addr) (oP : Obj) (kP : List (Int × Value)) (p : RF) (c' : Int × Int), v = .ref a ∧ (h.get? a = none ∧ h'.get? a = some (tupO [.ref pA, .ref cA]) ∧ h.get? pA = none ∧ h'.get? pA = some oP) ∧ oP.IsDictOf (PySem.intKind PR w) kP ∧ Told pt σ t p c' ∧ (pA == sysModules) = false ∧ pA ∉ V.all ∧ kP.length < 64 ∧ RatsIn h' kP p ∧ RatAt h' cA c') 16 G R hN
    (fun g r h tk Q O ret => ?_) ?_
  · obtain ⟨vx, nx, hx⟩ := ex
    have P0 := B.at_ _ _ _ O s ⟨vx, nx, (O.N _ hx).1⟩
    refine linear_fn g O.F.keep r V.W vok.wok sem P0.ws.bank (fun a ha => let ⟨_, e⟩ := B.has a (.tail _ (List.mem_append_left _ (Vd.bank_all a ha))); (O.N _ (s _ e)).2.2) x dx 1 jt (O.N _ mx).1 (O.N _ md).1 (O.N _ mx).2.2 (O.N _ md).2.2 ltx ltW t tt nn.lo nn.hi fi.l fi.m (Nat.le_trans bl (Nat.le_of_ble_eq_true rfl)) fun a h' tk' p c' K TA T => ?_
    obtain ⟨pA, cA, oP, kP, e1, e2, e3, e4, dP, rP, rc, lo, hl⟩ := TA
    obtain ⟨_, tk4⟩ := told_keys dP rP T
    exact ret _ _ _ K ⟨a, pA, cA, oP, kP, p, c', rfl, ⟨e2, e1, e4, e3⟩, dP, T, lo, (fun q => by obtain ⟨o, eo⟩ := Wrl.ex P0.ws pA q; rw [eo] at e4; cases e4), Nat.lt_of_le_of_lt tk4 (by decide), rP, rc⟩
  · rintro v h h' R' O _ ⟨a, pA, cA, oP, kP, p, c', rfl, ⟨e2, e1, e4, e3⟩, dP, T, lo, pn, hl, rP, rc⟩ tk nw
    refine kk a pA cA oP kP p c' R' (nw _ _ e2 e1) (nw _ _ e4 e3) dP T lo pn hl fun h2 l2 m2 O2 s => ?_
    have tk := tk h2 l2 m2 O2 s
    have tr : ∀ b y, RatAt h' b y → RatAt h2 b y := fun b y ⟨t1, t2, o, e, q1, n, q2⟩ => ⟨t1, t2, o, tk _ _ _ _ e q1 q2, q1, n, q2⟩
    refine ⟨fun k => ?_, tr _ _ rc⟩
    have q := rP k
    split
    · rename_i e; rw [e] at q; exact q
    · rename_i y e; rw [e] at q
      obtain ⟨b, q1, q2⟩ := q
      exact ⟨b, q1, tr _ _ q2⟩
theorem J.heap {α : Type} {t : PySem.Sem α} {PA : α → Led → Mp → Prop} (k : ∀ h, Own c l m h → J w c l m t PA) : J w c l m t PA := fun h tk O => k h O h tk O
theorem J.itemTm {D : Addr} {vs : List Value} {k : Int} {tk : Tok} {j : Nat} {v : Value} {value slice : PySem.Expr} (hD : (D, tupO vs) ∈ l) (h0 : -2 ^ 63 ≤ k) (h1 : k < 2 ^ 63) (hj : seqIndex? k vs.length = some j) (hx : vs[j]? = some v) (h : P v l m)
    (hs : autoParam (subscripted slice false (.ref D) (.int k tk) = operate [.ref D, .int k tk] (getItem (.ref D) (.int k tk))) Mine.aT3._auto_1) : J w c l m (subscriptTail value slice (.ref D) (.int k tk)) P := fun _ _ O =>
  item_tupleT ⟨_, (O.N _ hD).1, rfl, _, rfl⟩ h0 h1 hj hx ⟨_, _, _, _, rfl, O, h⟩ hs
inductive KForTL (w : World) (c : Cx) (PF : Flow → Led → Mp → Prop) (env : Env) (x : Str) (body : List Stmt) (Inv : Nat → Led → Mp → Prop) (xv : Value) (l : Led) (m : Mp) : Prop
  | mk (r : Addr) (items : List Value) (l' : Led) (e : xv = .ref r) (el : l = (r, tupO items) :: l') (h0 : Inv 0 l' m) (turn : ∀ i v l1 m1 own, items[i]? = some v → Inv i l1 m1 → OwnOff own (l1.map (·.1)) → J w c (l1 ++ own) ((x, v) :: m1) (execs body env) (TurnE own (Inv (i + 1))))
      (done : ∀ l1 m1, Inv items.length l1 m1 → PF .next l1 m1) : KForTL w c PF env x body Inv xv l m
theorem J.forTL {x : Str} {px pos : Pos} {iter : PySem.Expr} {body : List Stmt} (he : EnvX c env) (R : Rm c N) (Inv : Nat → Led → Mp → Prop) (k : J w c l m (eval iter env) (KForTL w c PF env x body Inv))
    (hx : autoParam (env.kindOf x = some .local) Mine.aT3._auto_1) (hs : autoParam (∀ x, foldedSetIterable iter env x = pure x) Mine.aT9._auto_1) : J w c l m (exec (.For (.Name x px) iter body [] pos) env) PF := fun h tk O => by
  obtain ⟨cn, cs, a, ccd, cl, rfl, hk⟩ := he
  obtain ⟨dp, un, fr, gd, eA, _⟩ := R
  refine For_invV c.g hx (by show (cs.kind == .class || (cs.kind == .module && _)) = false; rw [hk]; rfl) (k.run O ?_) hs (by passes_own)
  rintro xv l m h tk O ⟨r, items, l', rfl, rfl, h0, turn, done⟩
  have n' := List.pairwise_cons.mp O.nd
  exact tupleL (by rw [eA]) O.F O.N (fun q hq => (n'.1 q hq).symm) (fun i mf l1 => ∃ m1, mf = lk m1 ∧ Nd l1 ∧ Inv i l1 m1) ⟨m, rfl, n'.2, h0⟩
    (fun i v m₁ news₁ h tk own _ hv ⟨m1, e, nd, inv⟩ off F N => by subst e; exact turn_of nd off F N fun own off => turn i v news₁ m1 own hv inv off)
    fun m₁ news₁ h tk ⟨m1, e, nd, inv⟩ F N => by subst e; exact ⟨_, _, _, _, rfl, ⟨F, N, nd⟩, done _ _ inv⟩
end
theorem told_same {bl : Int → Option (List Int)} {w : World} {pt : Nat → Int → Int} {σ : Sg} {t : Int} {h : Heap} {o : Obj} {kvs : List (Int × Value)} {p : RF} {c : Int × Int} (e : bl = σ.bl) (d : o.IsDictOf (PySem.intKind PR w) kvs) (r : RatsIn h kvs p) (T : Told pt σ t p c) {xs ys : List Int}
    (px : xs.Perm (kvs.map (·.1))) (sx : xs.Pairwise (· ≤ ·)) (sy : ys.Pairwise (· ≤ ·)) (ny : ys.Nodup) (hy : ∀ k, k ∈ ys ↔ 3 ≤ k ∧ k < 7 ∧ Rc bl t k) : ys = xs := by
  subst e
  exact (told_sorted d r T px sx sy ny hy).symm
theorem chain_at {σ : Sg} {cv : Array Value} {ks : List Int} (ia : IntsAre cv.toList ks) (fine : ∀ t ∈ ks, Fine σ t) {j : Nat} (h : j < ks.length) : ∃ t tk, cv[j]? = some (.int t tk) ∧ Fine σ t := by
  obtain ⟨tk, e⟩ := ia.get j ks[j] (List.getElem?_eq_getElem h)
  exact ⟨ks[j], tk, by rw [← Array.getElem?_toList]; exact e, fine _ (List.getElem_mem h)⟩
theorem tup2 {σ : Sg} {ta tb : Int} {ka kb : Tok} {i : Nat} {v : Value} (hv : [Value.int ta ka, .int tb kb][i]? = some v) (fa : Fine σ ta) (fb : Fine σ tb) : ∃ t tk, v = .int t tk ∧ Fine σ t := by
  match i, hv with
  | 0, e => cases e; exact ⟨_, _, rfl, fa⟩
  | 1, e => cases e; exact ⟨_, _, rfl, fb⟩
  | _ + 2, e => simp at e
end Mine

open PySem PySem.W PySem.Calls PyProof.Rows
set_option Elab.async false
set_option linter.all false
set_option maxRecDepth 100000
set_option maxHeartbeats 40000000
namespace Mine
inductive EndI (w : World) (c : Cx) (V : Vd) (pt : Nat → Int → Int) (unA nU : Nat) (t3 t4 t5 t6 : Tok) (σ : Sg) (i z : Nat) (X : Led) (x : Addr) (mv : Int) (mt : Tok) (l : Led) (m : Mp) : Prop
  | mk (D : Led) (e : l = X ++ D) (B : LpD w c V i z σ pt unA nU t3 t4 t5 t6 D) (r1 : m.lookup (Str.ofString "judge") = some (.ref x)) (r2 : m.lookup (Str.ofString "many") = some (.int mv mt)) (r3 : m.lookup (Str.ofString "world") = some (.ref V.woA)) (r4 : m.lookup (Str.ofString "unknowns") = some (.ref unA)) (r5 : m.lookup (Str.ofString "bank") = some (.ref V.W.bA)) : EndI w c V pt unA nU t3 t4 t5 t6 σ i z X x mv mt l m
section
variable {w : World} {c : Cx}
theorem law_5 {PF : Flow → Led → Mp → Prop} {name qual : Str} {params : Arguments} {body : List Stmt} {scope : Scope} {dV kV doc pm cdv ct oc : Value} {an od : Option Addr} {osl : Array (Option Value)} (ho : (heapK w.params).lookup 802 = some ⟨oc, od, .func (fnOf name qual params body scope dV kV doc pm an cdv ct), osl⟩)
    (G : Gc w c) (R : Rm c 39) (he : EnvX c (envOfC qual scope c.L 802 cdv)) (hfin : ∀ l m, PF (.ret (.bool true)) l m) (V : Vd) (unA nU : Nat) (t3 t4 t5 t6 : Tok) (oU oF : Obj) (pt : Nat → Int → Int) (k : Nat) (l : Led) (m : Mp) (vok : V.Ok) (dF : oF.data = .cell (some (.ref V.feA))) (dU : ∃ v, oU.data = .cell v) (h26 : 26 ≤ k) (h31 : k ≤ 31)
    (hJ : LapJ w c V pt unA nU t3 t4 t5 t6 oU oF k l m) : J w c l m (execs (body.drop 10) (envOfC qual scope c.L 802 cdv)) PF := by
  have : PySem.Challenge.rw_sj0101_01.row.prog = PySem.Challenge.rw_sj0101_01.row.prog → heapK = heapK → True := by
    k_fill
    exact fun _ _ => trivial
  clear this
  refine fn_lit ho ?_
  clear ho
  intro e1 e2 e3 e4
  subst e1 e2 e3 e4
  simp only [List.drop_succ_cons, List.drop_zero]
  obtain ⟨vU, dU⟩ := dU
  obtain ⟨σ, i, z, hr, ah, ht, at_, cv, nC, ks, D, J', pm, hJ, ⟨q0, q1, q2, q3, q4, q5⟩, B, S⟩ := hJ
  refine J.perm pm ?_
  clear pm
  have bl : σ.ts.length ≤ 200 := by have := S.bl; lia
  have bi : i ≤ 900 := by have := S.bi; lia
  have hks := S.len
  have hcv : cv.size = k := by
    have h1 := S.ia.length
    rw [Array.length_toList, S.len] at h1
    exact h1
  obtain ⟨ta, tka, hta, fia⟩ := chain_at S.ia S.fine (j := ((-1 : Int) + cv.size).toNat) (by lia)
  obtain ⟨onA, hnA⟩ := B.has V.W.nA (.tail _ (List.mem_append_left _ (Vd.bank_all _ Wd.mem.2.2.2.2.2.2)))
  have fl : ∀ {o : Obj} {v : Option Value}, o.data = .cell v → ∀ xs n, o.data ≠ .seq xs n := fun h xs n e => by rw [h] at e; cases e
  k_with "name_MLaw6" => (first | rfl | exact q0 | exact q1 | exact q2 | exact q3 | exact q4 | exact q5)
  k_with "mem_MLaw6" => (first | assumption | exact .head _ | (refine .tail _ ?_; k_extra "mem_MLaw6"))
  k_with "l5_MLaw6" => ((with_reducible refine (?_ : J _ _ _ _ (eval (.Name _ _) _) _)); refine J.name he (by k_extra "name_MLaw6") ?_)
  k_with "l5_MLaw6" => ((with_reducible refine (?_ : J _ _ _ _ (exec (.Assign [.Tuple _ _ _] _ _) _) _)); refine J.tupS he R [Str.ofString "judge", Str.ofString "many"] ?_)
  k_with "l5_MLaw6" => ((with_reducible refine (?_ : KTupS _ _ _ _ _)); refine ⟨_, _, rfl, .head _, rfl, ?_⟩)
  k_with "l5_MLaw6" => ((with_reducible refine (?_ : J _ _ _ _ (PySem.call (.ref 733) _) _)); refine J.judge G R ?_; intro x_l dx_l jt_l lt_l ltx_l)
  k_with "subD_MLaw6" => (first | exact fun _ h => h | exact fun _ h => List.mem_append_right _ h | (refine sub_tail ?_; k_extra "subD_MLaw6"))
  k_with "l5_MLaw6" => ((with_reducible refine (?_ : J _ _ _ _ (getMethod (Value.ref V.W.bA) _ _) _)); refine J.methL G B (by k_extra "subD_MLaw6") ⟨_, _, by k_extra "mem_MLaw6"⟩ (by k_get) (by k_is) (by k_is) (by k_is) ?_)
  k_with "l5_MLaw6" => ((with_reducible refine (?_ : J _ _ _ _ (PySem.call (.ref 263) _) _)); refine J.sizeL G R vok B (by k_extra "subD_MLaw6") ⟨_, _, by k_extra "mem_MLaw6"⟩ (Nat.le_trans bl (Nat.le_of_ble_eq_true rfl)) ?_; intro t_l)
  repeat' (first | k_extra "l5_MLaw6" | k_extra "law" | k_extra "j")
  have ltW : V.W.nA < dx_l := lt_l (V.W.nA, onA) (.tail _ (.tail _ (.tail _ (List.mem_append_right _ hnA))))
  have kX : ∀ {D' : Led}, Kt D' ((V.exA, lsO cv nC) :: (c.L + 1 + 1, oU) :: (c.L + 1, oF) :: (J' ++ D')) ((V.exA, lsO cv nC) :: (c.L + 1 + 1, oU) :: (c.L + 1, oF) :: J') := .keep .ls (.keep (.cell dU) (.keep (.cell dF) (.app fun p hp => .inr (hJ p hp))))
  have kY : ∀ p ∈ (V.exA, lsO cv nC) :: (c.L + 1 + 1, oU) :: (c.L + 1, oF) :: J', (∀ xs n, p.2.data ≠ .seq xs n) ∨ p.1 = V.exA := List.forall_mem_cons.mpr ⟨.inr rfl, List.forall_mem_cons.mpr ⟨.inl (fl dU), List.forall_mem_cons.mpr ⟨.inl (fl dF), fun p hp => .inl (hJ p hp)⟩⟩⟩
  refine J.forTL he R (fun _ => EndI w c V pt unA nU t3 t4 t5 t6 σ (i + 1) z ((x_l, instObj 733 dx_l) :: (dx_l, dictOf [⟨PyData.keyHash w.params (Str.ofString "bank"), .str (Str.ofString "bank") jt_l, .ref V.W.bA⟩] 1) :: (V.exA, lsO cv nC) :: (c.L + 1 + 1, oU) :: (c.L + 1, oF) :: J') x_l ((σ.ts.length : Int) - 1) t_l) ?_
  k_with "l5_MLaw6" => ((with_reducible refine (?_ : J _ _ _ _ (PySem.call (.ref 758) _) _)); refine J.pickL (wide := 15) G R vok B (.drop (.keep (.inl (by simp)) (.keep (.inl (by simp)) kX))) (List.forall_mem_cons.mpr ⟨.inl (fun _ _ e => nomatch e), List.forall_mem_cons.mpr ⟨.inl (fun _ _ e => nomatch e), kY⟩⟩) ⟨_, _, .tail _ (.tail _ (.head _))⟩ bi (by decide) ?_; intro c_l tc_l R_l h0_l h1_l B_l)
  k_with "l5_MLaw6" => ((with_reducible refine (?_ : J _ _ _ _ (subscriptTail _ _ (Value.ref _) (Value.int (-1) _)) _)); refine J.itemNeg _ (by k_extra "nth") (by decide) (by lia) (by decide) hta ?_)
  k_with "l5_MLaw6" => ((with_reducible refine (?_ : J _ _ _ _ (subscriptTail _ _ (Value.ref _) (Value.int c_l _)) _)); obtain ⟨tb_l, tkb_l, htb_l, fib_l⟩ := chain_at S.ia S.fine (j := c_l.toNat) (by lia); refine J.item _ (by k_extra "nth") h0_l (Int.lt_trans h1_l (by decide)) htb_l ?_)
  repeat' (first | k_extra "l5_MLaw6" | k_extra "law" | k_extra "j")
  refine ⟨_, _, _, rfl, rfl, ⟨R_l, rfl, B_l, rfl, rfl, q1, q4, q5⟩, ?_, ?_⟩
  · have sem := S.sem
    clear B S hta htb_l kX kY hnA lt_l q0 q1 q2 q3 q4 q5 hcv hks
    rintro j v l1 m1 own hv ⟨D2, rfl, B2, r1, r2, r3, r4, r5⟩ off
    obtain ⟨t, tt, rfl, fi⟩ := tup2 hv fia fib_l
    clear hv fia fib_l B_l off
    refine J.postS ?_
    k_with "l6_MLaw6" => ((with_reducible refine (?_ : J _ _ _ _ (eval (.Name _ _) _) _)); refine J.name he (by first | rfl | exact r1 | exact r2 | exact r3 | exact r4 | exact r5) ?_)
    have sD : ∀ p ∈ D2, p ∈ ((x_l, instObj 733 dx_l) :: (dx_l, dictOf [⟨PyData.keyHash w.params (Str.ofString "bank"), .str (Str.ofString "bank") jt_l, .ref V.W.bA⟩] 1) :: (V.exA, lsO cv nC) :: (c.L + 1 + 1, oU) :: (c.L + 1, oF) :: J') ++ D2 ++ own := fun p hp => List.mem_append_left _ (List.mem_append_right _ hp)
    k_with "subZ_MLaw6" => (first | exact fun _ h => h | exact fun _ h => List.mem_append_left _ (sD _ h) | (refine sub_tail ?_; k_extra "subZ_MLaw6"))
    k_with "memZ_MLaw6" => (first | exact .head _ | exact List.mem_append_right _ ha_l | exact List.mem_append_right _ hp_l | (refine .tail _ ?_; k_extra "memZ_MLaw6"))
    k_with "l6_MLaw6" => ((with_reducible refine (?_ : J _ _ _ _ (PySem.call (.ref 681) _) _)); refine J.linN G R vok B2 sD ⟨_, _, .tail _ (.tail _ (.head _))⟩ sem bl (.head _) (.tail _ (.head _)) ltx_l ltW fi ?_; intro a_l pA_l cA_l oP_l kP_l p_l c'_l R1_l ha_l hp_l dP_l T_l lo_l pn_l hl_l rt_l)
    k_with "l6_MLaw6" => ((with_reducible refine (?_ : J _ _ _ _ (subscriptTail _ _ (Value.ref a_l) (Value.int _ _)) _)); refine J.itemTm (by k_extra "memZ_MLaw6") (by decide) (by decide) rfl rfl ?_)
    k_with "l6_MLaw6" => ((with_reducible refine (?_ : J _ _ _ _ (PySem.call (.builtin "sorted") _) _)); refine J.sortedD R (by k_extra "memZ_MLaw6") dP_l lo_l hl_l ?_; intro sA_l out_l xs_l sn_l ia_l sp_l sw_l)
    k_with "l6_MLaw6" => ((with_reducible refine (?_ : J _ _ _ _ (PySem.call (.ref 785) _) _)); refine J.reachL G R vok B2 (by k_extra "subZ_MLaw6") ⟨_, _, by k_extra "mem_MLaw6"⟩ sem bl fi ?_; intro rA_l ys_l vr_l rn_l ib_l rw_l rnd_l rk_l)
    k_with "l6_MLaw6" => ((with_reducible refine (?_ : J _ _ _ _ (compareOp .NotEq (.ref _) (.ref _)) _)); refine J.heap fun h_l O_l => ?_; obtain rfl := told_same rfl dP_l (rt_l _ _ _ O_l (fun _ h => .tail _ (.tail _ h))).1 T_l sp_l sw_l rw_l rnd_l rk_l; refine J.neSame R (by k_extra "mem_MLaw6") (by k_extra "mem_MLaw6") ia_l ib_l ?_)
    k_with "l6_MLaw6" => ((with_reducible refine (?_ : J _ _ _ _ (PySem.call (.ref 797) _) _)); refine J.toldL G R vok B2 (by k_extra "subZ_MLaw6") ⟨_, _, by k_extra "mem_MLaw6"⟩ sem fi (by k_extra "memZ_MLaw6") (by k_extra "memZ_MLaw6") pn_l dP_l (fun h O => rt_l _ _ _ O (by k_extra "subZ_MLaw6")) lo_l hl_l T_l ?_)
    repeat' (first | k_extra "l6_MLaw6" | k_extra "law" | k_extra "j")
    exact ⟨_, ⟨_, .refl _, .cons _ (.cons _ (List.sublist_append_left _ _))⟩, .inl rfl, _, Cut.all, D2, rfl, B2, r1, r2, r3, r4, r5⟩
  · rintro l1 m1 ⟨D2, rfl, B2, r1, r2, r3, r4, r5⟩
    k_with "l7_MLaw6" => ((with_reducible refine (?_ : J _ _ _ _ (eval (.Name _ _) _) _)); refine J.name he (by first | exact r2 | exact r5) ?_)
    k_with "l7_MLaw6" => ((with_reducible refine (?_ : J _ _ _ _ (getMethod (Value.ref V.W.bA) _ _) _)); refine J.methL G B2 (fun _ h => List.mem_append_right _ h) ⟨_, _, by k_extra "mem_MLaw6"⟩ (by k_get) (by k_is) (by k_is) (by k_is) ?_)
    k_with "l7_MLaw6" => ((with_reducible refine (?_ : J _ _ _ _ (PySem.call (.ref 263) _) _)); refine J.sizeL G R vok B2 (fun _ h => List.mem_append_right _ h) ⟨_, _, by k_extra "mem_MLaw6"⟩ (Nat.le_trans bl (Nat.le_of_ble_eq_true rfl)) ?_; intro t_l)
    repeat' (first | k_extra "l7_MLaw6" | k_extra "law" | k_extra "j")
    rw [beq_self_eq_true]
    exact hfin _ _
end
end Mine

open PySem PySem.W PySem.Calls PyProof.Rows
set_option Elab.async false
set_option linter.all false
set_option maxRecDepth 100000
set_option maxHeartbeats 40000000
namespace Mine
section
variable {w : World} {mean : ExcName → Option Value} {mg mb : Str → Option Value} {dp un : Nat} {fr : Option (List Env)} {gd : Option (List Code)} {s : Shared} {E : Value → Shared → Prop} {Q : Value → Shared → Prop} {hb : Heap}
theorem law_fn (G : Gd w mean mg mb hb) (kp : ∀ b o, hb.get? b = some o → s.heap.get? b = some o) (R : Room dp un 40) (scA : Nat) (vs : List Value) (ns : List Int) (hsc : s.heap.IsList scA vs.toArray) (hin : IntsAre vs ns) (hlen : vs.length ≤ 63)
    (hQ : ∀ h' tk', Keep [] s.heap h' → Q (.bool true) { s with heap := h', toks := tk' }) :
    wpAny (model PySem.Challenge.rw_sj0101_01.row.prog w) (AR dp un fr gd) (call (.ref 802) [.ref scA]) Q E s := by
  have X₀ := G.X
  revert X₀
  k_fill
  intro X₀
  clear X₀
  refine law_head G kp R scA vs ns hsc hin hlen (by k_is) hQ ?_
  intro c PF G R he hfin V unA nU t3 t4 t5 t6 oU oF pt k l m vok dF dU h26 h31 hJ
  exact law_5 (by k_is) G R he hfin V unA nU t3 t4 t5 t6 oU oF pt k l m vok dF dU h26 h31 hJ
end
end Mine

open PySem PySem.W PySem.Calls PyProof.Rows
set_option Elab.async false
set_option maxRecDepth 100000
set_option maxHeartbeats 8000000
theorem Mine.walk : ∀ d kwd, defOf Mine.viewK PySem.Challenge.rw_sj0101_01.row.name = some (d, kwd) → WalkO Mine.viewK [Str.ofString "MOST_BITS"] (XL Mine.viewK [(Str.ofString "MOST_BITS", WData.int 65536)]) (kHook Mine.heapK Mine.hAs Mine.hAs_is).says PySem.Challenge.rw_sj0101_01.row.toRowW d kwd fun f vs => PySem.call f vs := by
  intro d kwd hdk
  k_fill
  intro w s₀ s₁ mg mb G Y fa o pm cd doc dV kV ho hd hcd hD hmg hg args vals as hpre hlay hrd hwl hlo
  have KX := kIn_of Y
  have hmg : mg (Str.ofString "law") = some (.ref fa) := (congrArg mg (defOf_name hdk)).symm.trans hmg
  refine Ground.open G ?_
  intro T B D TE TW
  have e9 := mg_of KX T.g (n := Str.ofString "law") (v := .ref 802) (by k_is)
  rw [hmg] at e9
  injection e9 with e9
  injection e9 with e9
  subst e9
  wrow_args hpre hlay hrd hwl hlo
  clear ho hd hcd hD hdk
  rename Heap.IsList _ _ _ => hL9
  rename IntsAre _ _ => hI9
  rename ¬ (_ < _) => hc9
  refine Mine.law_fn (dp := 1 + claimMargin) (un := 4) (gd := some []) ⟨KX, T⟩ (fun _ _ e => e) ⟨by decide, by decide⟩ _ _ _ hL9 hI9 (by have := hI9.length; lia) ?_
  intro h' tk' K
  exact ⟨.inl ⟨.bool true, .bool true, [], rfl, fun _ => rfl, .bool true, (by first | with_unfolding_all rfl | kernel_rfl | decide +kernel), fun _ => ⟨List.nodup_nil, fun _ h => nomatch h⟩⟩, .of_keep (fun b o e => K b o List.not_mem_nil e), rfl, .of_eq hg⟩

open PySem PySem.W PySem.Calls PyProof.Rows
namespace Mine
theorem main.tw10044588960856096794 : True := ⟨⟩
theorem main.tw10123989817122485451 : True := ⟨⟩
theorem main.tw10140136200207757160 : True := ⟨⟩
theorem main.tw10149618387772673413 : True := ⟨⟩
theorem main.tw10159738436595150677 : True := ⟨⟩
theorem main.tw10169072693733980587 : True := ⟨⟩
theorem main.tw10177057350305019805 : True := ⟨⟩
theorem main.tw10199874654664476236 : True := ⟨⟩
theorem main.tw10201359505653846880 : True := ⟨⟩
theorem main.tw10231336680788121439 : True := ⟨⟩
theorem main.tw10234815189450012239 : True := ⟨⟩
theorem main.tw10252420194574924718 : True := ⟨⟩
theorem main.tw10283388844273144081 : True := ⟨⟩
theorem main.tw10334261112615635914 : True := ⟨⟩
theorem main.tw10352830788147966216 : True := ⟨⟩
theorem main.tw104360540948158410 : True := ⟨⟩
theorem main.tw10450603732522932521 : True := ⟨⟩
theorem main.tw10453263994017694363 : True := ⟨⟩
theorem main.tw10455743928339290457 : True := ⟨⟩
theorem main.tw10463206416058312583 : True := ⟨⟩
theorem main.tw10474107093616326617 : True := ⟨⟩
theorem main.tw10548918766592180815 : True := ⟨⟩
theorem main.tw10609540516017602915 : True := ⟨⟩
theorem main.tw10625486282989778954 : True := ⟨⟩
theorem main.tw10642606787283503386 : True := ⟨⟩
theorem main.tw10652611922669240339 : True := ⟨⟩
theorem main.tw10656741131859049111 : True := ⟨⟩
theorem main.tw10665469846841522134 : True := ⟨⟩
theorem main.tw10707853282979444102 : True := ⟨⟩
theorem main.tw10821422270917381399 : True := ⟨⟩
theorem main.tw10825838108423173272 : True := ⟨⟩
theorem main.tw10864377008497418100 : True := ⟨⟩
theorem main.tw10876375607700338302 : True := ⟨⟩
theorem main.tw10896356407431480244 : True := ⟨⟩
theorem main.tw10924716458440934090 : True := ⟨⟩
theorem main.tw1092785777240315536 : True := ⟨⟩
theorem main.tw1094616529103628490 : True := ⟨⟩
theorem main.tw10953687544409504101 : True := ⟨⟩
theorem main.tw1098248734344127483 : True := ⟨⟩
theorem main.tw10985888656933367436 : True := ⟨⟩
theorem main.tw10992214633131536827 : True := ⟨⟩
theorem main.tw1099256609624015869 : True := ⟨⟩
theorem main.tw11086099901593105684 : True := ⟨⟩
theorem main.tw11092141859048813250 : True := ⟨⟩
theorem main.tw11120327062377616369 : True := ⟨⟩
theorem main.tw11125538497796368324 : True := ⟨⟩
theorem main.tw11129844816282181526 : True := ⟨⟩
theorem main.tw11135027115929721415 : True := ⟨⟩
theorem main.tw1118068078248606362 : True := ⟨⟩
theorem main.tw11181722664286889309 : True := ⟨⟩
theorem main.tw11183452524601008856 : True := ⟨⟩
theorem main.tw11218778669853930896 : True := ⟨⟩
theorem main.tw11221353774195762014 : True := ⟨⟩
theorem main.tw11239335112260394413 : True := ⟨⟩
theorem main.tw11261727412033496967 : True := ⟨⟩
theorem main.tw11273777480241942364 : True := ⟨⟩
theorem main.tw1130211791997205004 : True := ⟨⟩
theorem main.tw11311155076762098589 : True := ⟨⟩
theorem main.tw11388154006635350966 : True := ⟨⟩
theorem main.tw11403970630465759474 : True := ⟨⟩
theorem main.tw11409991511011244131 : True := ⟨⟩
theorem main.tw11410963132546700228 : True := ⟨⟩
theorem main.tw11476092923266045095 : True := ⟨⟩
theorem main.tw11531331273489700057 : True := ⟨⟩
theorem main.tw11614346279706655073 : True := ⟨⟩
theorem main.tw11646826074482590764 : True := ⟨⟩
theorem main.tw11670399090076514202 : True := ⟨⟩
theorem main.tw11692516046256081784 : True := ⟨⟩
theorem main.tw11707585526205722907 : True := ⟨⟩
theorem main.tw11716418206903941319 : True := ⟨⟩
theorem main.tw11718922622762105586 : True := ⟨⟩
theorem main.tw11725999154989108132 : True := ⟨⟩
theorem main.tw11728771520666845194 : True := ⟨⟩
theorem main.tw11752208632293872130 : True := ⟨⟩
theorem main.tw11785714552879321826 : True := ⟨⟩
theorem main.tw1178595665728414349 : True := ⟨⟩
theorem main.tw11923525502935528744 : True := ⟨⟩
theorem main.tw11959175965017232096 : True := ⟨⟩
theorem main.tw11987853993630220354 : True := ⟨⟩
theorem main.tw12006131722545458140 : True := ⟨⟩
theorem main.tw12023146180999706270 : True := ⟨⟩
theorem main.tw12027323910402764344 : True := ⟨⟩
theorem main.tw12057704586751987240 : True := ⟨⟩
theorem main.tw12142246244290616864 : True := ⟨⟩
theorem main.tw12170992721606120685 : True := ⟨⟩
theorem main.tw12245857906982125569 : True := ⟨⟩
theorem main.tw12273490649430754879 : True := ⟨⟩
theorem main.tw12324921354453157484 : True := ⟨⟩
theorem main.tw12332102779922042578 : True := ⟨⟩
theorem main.tw12338497608069007261 : True := ⟨⟩
theorem main.tw12361340156312767134 : True := ⟨⟩
theorem main.tw1242282695825638017 : True := ⟨⟩
theorem main.tw12450111651097656602 : True := ⟨⟩
theorem main.tw12463224122652932544 : True := ⟨⟩
theorem main.tw12483276189755474720 : True := ⟨⟩
theorem main.tw1253437644075932092 : True := ⟨⟩
theorem main.tw12543713266681445118 : True := ⟨⟩
theorem main.tw12570134572688502250 : True := ⟨⟩
theorem main.tw12574995316784493246 : True := ⟨⟩
theorem main.tw12590340796369385619 : True := ⟨⟩
theorem main.tw1259162542039736189 : True := ⟨⟩
theorem main.tw1261021989165538067 : True := ⟨⟩
theorem main.tw12623159325031504133 : True := ⟨⟩
theorem main.tw1264294196387467257 : True := ⟨⟩
theorem main.tw12644229856144595905 : True := ⟨⟩
theorem main.tw12675357926760492328 : True := ⟨⟩
theorem main.tw12681957500809781501 : True := ⟨⟩
theorem main.tw12702744160499308131 : True := ⟨⟩
theorem main.tw12732289081945773324 : True := ⟨⟩
theorem main.tw12741544251441588921 : True := ⟨⟩
theorem main.tw12744500583689234089 : True := ⟨⟩
theorem main.tw12747388180105724736 : True := ⟨⟩
theorem main.tw12785325919471990445 : True := ⟨⟩
theorem main.tw12885385263037960081 : True := ⟨⟩
theorem main.tw12909650291622432550 : True := ⟨⟩
theorem main.tw12915833801598196605 : True := ⟨⟩
theorem main.tw12922898485456448571 : True := ⟨⟩
theorem main.tw12927740378394474205 : True := ⟨⟩
theorem main.tw12942913107403878096 : True := ⟨⟩
theorem main.tw12959741745000181155 : True := ⟨⟩
theorem main.tw12974819211118642341 : True := ⟨⟩
theorem main.tw13110970153573199417 : True := ⟨⟩
theorem main.tw13116522157475607773 : True := ⟨⟩
theorem main.tw13148611719377898607 : True := ⟨⟩
theorem main.tw1319676515408343850 : True := ⟨⟩
theorem main.tw13224007501803129859 : True := ⟨⟩
theorem main.tw13227784636351994527 : True := ⟨⟩
theorem main.tw13255245976751338989 : True := ⟨⟩
theorem main.tw13293747886898857621 : True := ⟨⟩
theorem main.tw13306352142949925410 : True := ⟨⟩
theorem main.tw13348322127785295214 : True := ⟨⟩
theorem main.tw13406003279186336099 : True := ⟨⟩
theorem main.tw13433100614611975579 : True := ⟨⟩
theorem main.tw13465503431842376007 : True := ⟨⟩
theorem main.tw13503263706703578961 : True := ⟨⟩
theorem main.tw13547569757486424058 : True := ⟨⟩
theorem main.tw13591255225166038476 : True := ⟨⟩
theorem main.tw13626721169425172152 : True := ⟨⟩
theorem main.tw13642826006792871662 : True := ⟨⟩
theorem main.tw13667920496262714385 : True := ⟨⟩
theorem main.tw13689083923384677848 : True := ⟨⟩
theorem main.tw13713940216889387898 : True := ⟨⟩
theorem main.tw13724616953566380437 : True := ⟨⟩
theorem main.tw1372806426800153423 : True := ⟨⟩
theorem main.tw13803360072150633466 : True := ⟨⟩
theorem main.tw13838900630717943254 : True := ⟨⟩
theorem main.tw13852523400026326275 : True := ⟨⟩
theorem main.tw13876859957761632879 : True := ⟨⟩
theorem main.tw1390771862084280389 : True := ⟨⟩
theorem main.tw13980345723018547825 : True := ⟨⟩
theorem main.tw13995172100960836882 : True := ⟨⟩
theorem main.tw14027531716089632829 : True := ⟨⟩
theorem main.tw14061640607465278742 : True := ⟨⟩
theorem main.tw14080665800827857628 : True := ⟨⟩
theorem main.tw1415428593365352553 : True := ⟨⟩
theorem main.tw14168887731352723522 : True := ⟨⟩
theorem main.tw14235155234550121937 : True := ⟨⟩
theorem main.tw1429040668314091153 : True := ⟨⟩
theorem main.tw14313897822631088780 : True := ⟨⟩
theorem main.tw14336716466608126219 : True := ⟨⟩
theorem main.tw14338414707916329796 : True := ⟨⟩
theorem main.tw14368271195830560734 : True := ⟨⟩
theorem main.tw14377180257169084997 : True := ⟨⟩
theorem main.tw14377536511252160716 : True := ⟨⟩
theorem main.tw14390754486103292620 : True := ⟨⟩
theorem main.tw14406990849044604362 : True := ⟨⟩
theorem main.tw14439473939278146460 : True := ⟨⟩
theorem main.tw14457758005677747962 : True := ⟨⟩
theorem main.tw14485764384710986 : True := ⟨⟩
theorem main.tw14489535830319231195 : True := ⟨⟩
theorem main.tw14492832472218066102 : True := ⟨⟩
theorem main.tw14539993770535171780 : True := ⟨⟩
theorem main.tw14636892021812066514 : True := ⟨⟩
theorem main.tw14639212616227390028 : True := ⟨⟩
theorem main.tw14646587721710459877 : True := ⟨⟩
theorem main.tw14662554035588321541 : True := ⟨⟩
theorem main.tw14672674291997333471 : True := ⟨⟩
theorem main.tw14698241182937546978 : True := ⟨⟩
theorem main.tw1469836325065767749 : True := ⟨⟩
theorem main.tw14721343552236136636 : True := ⟨⟩
theorem main.tw14722489848711283861 : True := ⟨⟩
theorem main.tw14771111431291430275 : True := ⟨⟩
theorem main.tw14788915703135433725 : True := ⟨⟩
theorem main.tw14798791472264738832 : True := ⟨⟩
theorem main.tw14805756002866571830 : True := ⟨⟩
theorem main.tw14849204138880929251 : True := ⟨⟩
theorem main.tw14864641218109852296 : True := ⟨⟩
theorem main.tw14907226015203709474 : True := ⟨⟩
theorem main.tw14962632401376961426 : True := ⟨⟩
theorem main.tw1496695287857109588 : True := ⟨⟩
theorem main.tw15059693217772790739 : True := ⟨⟩
theorem main.tw15062679425460387418 : True := ⟨⟩
theorem main.tw15079240505294077160 : True := ⟨⟩
theorem main.tw15087427406127887449 : True := ⟨⟩
theorem main.tw15109750227778091905 : True := ⟨⟩
theorem main.tw15136431859952498927 : True := ⟨⟩
theorem main.tw1519927702969063271 : True := ⟨⟩
theorem main.tw15225127925928830808 : True := ⟨⟩
theorem main.tw15342904991969174519 : True := ⟨⟩
theorem main.tw15350898050860989542 : True := ⟨⟩
theorem main.tw15365013842991253249 : True := ⟨⟩
theorem main.tw15371371512377873269 : True := ⟨⟩
theorem main.tw15387884906608193903 : True := ⟨⟩
theorem main.tw15410482203810522393 : True := ⟨⟩
theorem main.tw15438212644395081984 : True := ⟨⟩
theorem main.tw15445229340043853549 : True := ⟨⟩
theorem main.tw1545906260438175962 : True := ⟨⟩
theorem main.tw15461212566085484399 : True := ⟨⟩
theorem main.tw15467891735981029475 : True := ⟨⟩
theorem main.tw1548279923187021627 : True := ⟨⟩
theorem main.tw15485851114877660061 : True := ⟨⟩
theorem main.tw15514936471743626214 : True := ⟨⟩
theorem main.tw15540984915698410164 : True := ⟨⟩
theorem main.tw15554039934745177238 : True := ⟨⟩
theorem main.tw15565075772751903193 : True := ⟨⟩
theorem main.tw15589955886551607785 : True := ⟨⟩
theorem main.tw15606653302220566414 : True := ⟨⟩
theorem main.tw15624239662980076321 : True := ⟨⟩
theorem main.tw15642941266545998023 : True := ⟨⟩
theorem main.tw15643365686152983790 : True := ⟨⟩
theorem main.tw15670109119070698982 : True := ⟨⟩
theorem main.tw15734660467963936456 : True := ⟨⟩
theorem main.tw15803610866087392283 : True := ⟨⟩
theorem main.tw1587290215689348708 : True := ⟨⟩
theorem main.tw1590763530083325563 : True := ⟨⟩
theorem main.tw15928290008803537013 : True := ⟨⟩
theorem main.tw15957597259013190341 : True := ⟨⟩
theorem main.tw15970538086172389420 : True := ⟨⟩
theorem main.tw16008252555379753968 : True := ⟨⟩
theorem main.tw16008457594558532635 : True := ⟨⟩
theorem main.tw16022572192331126682 : True := ⟨⟩
theorem main.tw16026485685270457870 : True := ⟨⟩
theorem main.tw16026775910206950810 : True := ⟨⟩
theorem main.tw16033097090804400913 : True := ⟨⟩
theorem main.tw16057503054469045564 : True := ⟨⟩
theorem main.tw16135426469972691074 : True := ⟨⟩
theorem main.tw16136984950599521427 : True := ⟨⟩
theorem main.tw16187894506366716058 : True := ⟨⟩
theorem main.tw161903638078081290 : True := ⟨⟩
theorem main.tw16193401482309157537 : True := ⟨⟩
theorem main.tw16203622797070002922 : True := ⟨⟩
theorem main.tw16274502184877008141 : True := ⟨⟩
theorem main.tw16304157974115477746 : True := ⟨⟩
theorem main.tw16320215318167395912 : True := ⟨⟩
theorem main.tw1632041292262086317 : True := ⟨⟩
theorem main.tw16355746345580011080 : True := ⟨⟩
theorem main.tw16371245233790784175 : True := ⟨⟩
theorem main.tw16424990018577422225 : True := ⟨⟩
theorem main.tw1645717771770832407 : True := ⟨⟩
theorem main.tw16480584520131690045 : True := ⟨⟩
theorem main.tw16508919721030705984 : True := ⟨⟩
theorem main.tw16519101796099990279 : True := ⟨⟩
theorem main.tw16563369274607658579 : True := ⟨⟩
theorem main.tw16572128252103988241 : True := ⟨⟩
theorem main.tw16641786646906312760 : True := ⟨⟩
theorem main.tw16656740534632174751 : True := ⟨⟩
theorem main.tw16721930046160240684 : True := ⟨⟩
theorem main.tw16755849432154420019 : True := ⟨⟩
theorem main.tw16757190730947197508 : True := ⟨⟩
theorem main.tw1677766988990989824 : True := ⟨⟩
theorem main.tw16778611742570070204 : True := ⟨⟩
theorem main.tw1678875084529416142 : True := ⟨⟩
theorem main.tw16798207577519904205 : True := ⟨⟩
theorem main.tw16798622893749714585 : True := ⟨⟩
theorem main.tw16806246253224384389 : True := ⟨⟩
theorem main.tw16817993663026736274 : True := ⟨⟩
theorem main.tw16819838333489098493 : True := ⟨⟩
theorem main.tw16832360635688203351 : True := ⟨⟩
theorem main.tw16863156106696720372 : True := ⟨⟩
theorem main.tw16877947373546393871 : True := ⟨⟩
theorem main.tw16922381011570985944 : True := ⟨⟩
theorem main.tw16923884221124529275 : True := ⟨⟩
theorem main.tw16950194794029067938 : True := ⟨⟩
theorem main.tw16952484285578525507 : True := ⟨⟩
theorem main.tw16959884160788844718 : True := ⟨⟩
theorem main.tw16989488325979979065 : True := ⟨⟩
theorem main.tw17067035981215421688 : True := ⟨⟩
theorem main.tw1707505545463187130 : True := ⟨⟩
theorem main.tw17144978775634262171 : True := ⟨⟩
theorem main.tw17147588175821073265 : True := ⟨⟩
theorem main.tw1714950047550659301 : True := ⟨⟩
theorem main.tw17185042187573640451 : True := ⟨⟩
theorem main.tw17201416709059790184 : True := ⟨⟩
theorem main.tw17227442419121036007 : True := ⟨⟩
theorem main.tw17236958762192778904 : True := ⟨⟩
theorem main.tw17268439761433841065 : True := ⟨⟩
theorem main.tw17280665378484479262 : True := ⟨⟩
theorem main.tw17298425922696826006 : True := ⟨⟩
theorem main.tw17353955331779342651 : True := ⟨⟩
theorem main.tw174131880313736182 : True := ⟨⟩
theorem main.tw17413806152003534235 : True := ⟨⟩
theorem main.tw17431719831054627609 : True := ⟨⟩
theorem main.tw17438294365789470252 : True := ⟨⟩
theorem main.tw17450470499104002142 : True := ⟨⟩
theorem main.tw17456035664235451855 : True := ⟨⟩
theorem main.tw17493723678399337961 : True := ⟨⟩
theorem main.tw17495560712657236704 : True := ⟨⟩
theorem main.tw17510229520200029679 : True := ⟨⟩
theorem main.tw17561526911342447988 : True := ⟨⟩
theorem main.tw17563168436475441343 : True := ⟨⟩
theorem main.tw17600866488970185278 : True := ⟨⟩
theorem main.tw17647351573629430322 : True := ⟨⟩
theorem main.tw17659147809683748901 : True := ⟨⟩
theorem main.tw17665120845849184447 : True := ⟨⟩
theorem main.tw17679725944135375923 : True := ⟨⟩
theorem main.tw17695171507069755227 : True := ⟨⟩
theorem main.tw17708487481403421675 : True := ⟨⟩
theorem main.tw17715262827843222689 : True := ⟨⟩
theorem main.tw17725498274588495791 : True := ⟨⟩
theorem main.tw1777545030009416734 : True := ⟨⟩
theorem main.tw17852728027883260815 : True := ⟨⟩
theorem main.tw17864028415675338326 : True := ⟨⟩
theorem main.tw17871620999419790863 : True := ⟨⟩
theorem main.tw17904854198161793398 : True := ⟨⟩
theorem main.tw17920292393507637884 : True := ⟨⟩
theorem main.tw17943756269633507525 : True := ⟨⟩
theorem main.tw17974016328880235120 : True := ⟨⟩
theorem main.tw18101283991042498890 : True := ⟨⟩
theorem main.tw18120430973489738927 : True := ⟨⟩
theorem main.tw18134284020713443437 : True := ⟨⟩
theorem main.tw18165044119631177899 : True := ⟨⟩
theorem main.tw18178676814319149831 : True := ⟨⟩
theorem main.tw18187686788820605841 : True := ⟨⟩
theorem main.tw18190005008629794160 : True := ⟨⟩
theorem main.tw18238007617527299592 : True := ⟨⟩
theorem main.tw18284262389922463811 : True := ⟨⟩
theorem main.tw18287795668848337631 : True := ⟨⟩
theorem main.tw18317609476662902477 : True := ⟨⟩
theorem main.tw18418235949754561950 : True := ⟨⟩
theorem main.tw18421580907717582127 : True := ⟨⟩
theorem main.tw18425317256667529438 : True := ⟨⟩
theorem main.tw18431692314602308842 : True := ⟨⟩
theorem main.tw18442785490491869365 : True := ⟨⟩
theorem main.tw18446094637698972617 : True := ⟨⟩
theorem main.tw1900339198761634783 : True := ⟨⟩
theorem main.tw1980160206288974728 : True := ⟨⟩
theorem main.tw2007339730380871907 : True := ⟨⟩
theorem main.tw2127038452521536779 : True := ⟨⟩
theorem main.tw2136821422063795447 : True := ⟨⟩
theorem main.tw2195194259037543316 : True := ⟨⟩
theorem main.tw2238316416991798583 : True := ⟨⟩
theorem main.tw2279707942289718827 : True := ⟨⟩
theorem main.tw2287757881348798766 : True := ⟨⟩
theorem main.tw2363833142923657126 : True := ⟨⟩
theorem main.tw2399826469436781019 : True := ⟨⟩
theorem main.tw2406621943657119228 : True := ⟨⟩
theorem main.tw2433702464844828792 : True := ⟨⟩
theorem main.tw2484414159333256978 : True := ⟨⟩
theorem main.tw2524017781993486291 : True := ⟨⟩
theorem main.tw2544328076492683441 : True := ⟨⟩
theorem main.tw2564707057010578714 : True := ⟨⟩
theorem main.tw2566753976717531306 : True := ⟨⟩
theorem main.tw2599750674813586877 : True := ⟨⟩
theorem main.tw2675658811408624930 : True := ⟨⟩
theorem main.tw2702614204127132176 : True := ⟨⟩
theorem main.tw2704602940660078815 : True := ⟨⟩
theorem main.tw2714283472998740243 : True := ⟨⟩
theorem main.tw2750411421705246143 : True := ⟨⟩
theorem main.tw2923286348875671695 : True := ⟨⟩
theorem main.tw2965820268544440810 : True := ⟨⟩
theorem main.tw3056878081241006185 : True := ⟨⟩
theorem main.tw308427716283879934 : True := ⟨⟩
theorem main.tw3136416535801588117 : True := ⟨⟩
theorem main.tw3137596982192898869 : True := ⟨⟩
theorem main.tw3222223853247747169 : True := ⟨⟩
theorem main.tw3234112476842188716 : True := ⟨⟩
theorem main.tw3262662943086543052 : True := ⟨⟩
theorem main.tw3288582142898991060 : True := ⟨⟩
theorem main.tw3298483428156984901 : True := ⟨⟩
theorem main.tw3299218664060906527 : True := ⟨⟩
theorem main.tw3305931106042330821 : True := ⟨⟩
theorem main.tw33456957511925785 : True := ⟨⟩
theorem main.tw3370842686811476594 : True := ⟨⟩
theorem main.tw341453280667917650 : True := ⟨⟩
theorem main.tw3459380146013217038 : True := ⟨⟩
theorem main.tw3464709057266567092 : True := ⟨⟩
theorem main.tw3466206800631347469 : True := ⟨⟩
theorem main.tw3491332818749588091 : True := ⟨⟩
theorem main.tw3557749057250611081 : True := ⟨⟩
theorem main.tw3570300971023340979 : True := ⟨⟩
theorem main.tw358491910552652209 : True := ⟨⟩
theorem main.tw3613476055612923068 : True := ⟨⟩
theorem main.tw3627144658338631552 : True := ⟨⟩
theorem main.tw365850788961202214 : True := ⟨⟩
theorem main.tw3706830351922483016 : True := ⟨⟩
theorem main.tw3724484323120607773 : True := ⟨⟩
theorem main.tw3731879374237491455 : True := ⟨⟩
theorem main.tw3748114642381145586 : True := ⟨⟩
theorem main.tw3750506576032048294 : True := ⟨⟩
theorem main.tw3796207824708393856 : True := ⟨⟩
theorem main.tw3848698983108048278 : True := ⟨⟩
theorem main.tw3864431920445960829 : True := ⟨⟩
theorem main.tw3867218068155391060 : True := ⟨⟩
theorem main.tw387501639795913443 : True := ⟨⟩
theorem main.tw3958507339218470045 : True := ⟨⟩
theorem main.tw3960113756560652017 : True := ⟨⟩
theorem main.tw4026956272090484662 : True := ⟨⟩
theorem main.tw4047586217144654443 : True := ⟨⟩
theorem main.tw4189750870438640210 : True := ⟨⟩
theorem main.tw4193505271845495863 : True := ⟨⟩
theorem main.tw4244067443239231564 : True := ⟨⟩
theorem main.tw4258463428174104133 : True := ⟨⟩
theorem main.tw4297412468100583042 : True := ⟨⟩
theorem main.tw4330594992337426955 : True := ⟨⟩
theorem main.tw4350604851675314991 : True := ⟨⟩
theorem main.tw4385281892830598654 : True := ⟨⟩
theorem main.tw4420394385881154636 : True := ⟨⟩
theorem main.tw4458048076830672230 : True := ⟨⟩
theorem main.tw4475767826048309731 : True := ⟨⟩
theorem main.tw4491334807805099456 : True := ⟨⟩
theorem main.tw4587069139193485165 : True := ⟨⟩
theorem main.tw4630824681090250767 : True := ⟨⟩
theorem main.tw4644634924443464280 : True := ⟨⟩
theorem main.tw4650958065196391918 : True := ⟨⟩
theorem main.tw470481871638761223 : True := ⟨⟩
theorem main.tw471287901995484742 : True := ⟨⟩
theorem main.tw4719957520787936630 : True := ⟨⟩
theorem main.tw4741876487499883015 : True := ⟨⟩
theorem main.tw474381771622712015 : True := ⟨⟩
theorem main.tw4766233809647381661 : True := ⟨⟩
theorem main.tw4775608329324902142 : True := ⟨⟩
theorem main.tw480701840831765632 : True := ⟨⟩
theorem main.tw4838787530573997063 : True := ⟨⟩
theorem main.tw48596604365144762 : True := ⟨⟩
theorem main.tw4886955015573163100 : True := ⟨⟩
theorem main.tw4900431672193113347 : True := ⟨⟩
theorem main.tw4948327476702027199 : True := ⟨⟩
theorem main.tw495442525896006271 : True := ⟨⟩
theorem main.tw49674306023711395 : True := ⟨⟩
theorem main.tw4990475226369331113 : True := ⟨⟩
theorem main.tw4996873109452691289 : True := ⟨⟩
theorem main.tw5004366561265856203 : True := ⟨⟩
theorem main.tw5061512775090418087 : True := ⟨⟩
theorem main.tw5084117380071580128 : True := ⟨⟩
theorem main.tw5104194264097766351 : True := ⟨⟩
theorem main.tw5127751686995613262 : True := ⟨⟩
theorem main.tw5160751907100791332 : True := ⟨⟩
theorem main.tw5181119749688162637 : True := ⟨⟩
theorem main.tw52199770228462824 : True := ⟨⟩
theorem main.tw5240536507193477226 : True := ⟨⟩
theorem main.tw5268168578311729375 : True := ⟨⟩
theorem main.tw5287059835090251167 : True := ⟨⟩
theorem main.tw5378808338967829844 : True := ⟨⟩
theorem main.tw5401703158475992631 : True := ⟨⟩
theorem main.tw5418533224930618480 : True := ⟨⟩
theorem main.tw5436791530062809996 : True := ⟨⟩
theorem main.tw5450094653865882931 : True := ⟨⟩
theorem main.tw5456330333991267789 : True := ⟨⟩
theorem main.tw5473700226181020891 : True := ⟨⟩
theorem main.tw54841869916938688 : True := ⟨⟩
theorem main.tw5517759331935216279 : True := ⟨⟩
theorem main.tw5518243967957118194 : True := ⟨⟩
theorem main.tw5567732340971880690 : True := ⟨⟩
theorem main.tw5571399437266216444 : True := ⟨⟩
theorem main.tw5585478044538960755 : True := ⟨⟩
theorem main.tw5613160597433933154 : True := ⟨⟩
theorem main.tw5616070069386785504 : True := ⟨⟩
theorem main.tw5638201095994319732 : True := ⟨⟩
theorem main.tw5649967823195072380 : True := ⟨⟩
theorem main.tw5671064798259553346 : True := ⟨⟩
theorem main.tw5677329702179833609 : True := ⟨⟩
theorem main.tw5781596087445459943 : True := ⟨⟩
theorem main.tw5790326737455844299 : True := ⟨⟩
theorem main.tw5831584030425509755 : True := ⟨⟩
theorem main.tw5842977544298395883 : True := ⟨⟩
theorem main.tw5870225077901225703 : True := ⟨⟩
theorem main.tw588950844065142505 : True := ⟨⟩
theorem main.tw5890889631881817875 : True := ⟨⟩
theorem main.tw5921134243170700561 : True := ⟨⟩
theorem main.tw5995161000843957690 : True := ⟨⟩
theorem main.tw6011809648609698980 : True := ⟨⟩
theorem main.tw6087835443962453003 : True := ⟨⟩
theorem main.tw6106196091520820027 : True := ⟨⟩
theorem main.tw6112859857366181021 : True := ⟨⟩
theorem main.tw613567027398061577 : True := ⟨⟩
theorem main.tw6161133996638707016 : True := ⟨⟩
theorem main.tw6162249291895867263 : True := ⟨⟩
theorem main.tw6164561884633627433 : True := ⟨⟩
theorem main.tw6234934611588079204 : True := ⟨⟩
theorem main.tw6264281720289328834 : True := ⟨⟩
theorem main.tw6283666216762299864 : True := ⟨⟩
theorem main.tw6334894449686545209 : True := ⟨⟩
theorem main.tw6361450105264607166 : True := ⟨⟩
theorem main.tw6385024630547198690 : True := ⟨⟩
theorem main.tw6404898279339705064 : True := ⟨⟩
theorem main.tw6449824600675878752 : True := ⟨⟩
theorem main.tw6455149578367423246 : True := ⟨⟩
theorem main.tw6511744376749373798 : True := ⟨⟩
theorem main.tw6516198228755648517 : True := ⟨⟩
theorem main.tw6519269512792494810 : True := ⟨⟩
theorem main.tw6542085627976250192 : True := ⟨⟩
theorem main.tw6559806142732475569 : True := ⟨⟩
theorem main.tw6590341273101898363 : True := ⟨⟩
theorem main.tw6610863978598893717 : True := ⟨⟩
theorem main.tw66260789543402106 : True := ⟨⟩
theorem main.tw663525757362878733 : True := ⟨⟩
theorem main.tw6640438233256266117 : True := ⟨⟩
theorem main.tw6690441779611380620 : True := ⟨⟩
theorem main.tw6788530277367551627 : True := ⟨⟩
theorem main.tw6788695710022549768 : True := ⟨⟩
theorem main.tw6853845051196202786 : True := ⟨⟩
theorem main.tw6855474311058116810 : True := ⟨⟩
theorem main.tw6880717277089553138 : True := ⟨⟩
theorem main.tw6886502059237256666 : True := ⟨⟩
theorem main.tw6907636171062424033 : True := ⟨⟩
theorem main.tw6912675738884088206 : True := ⟨⟩
theorem main.tw6914184659022975773 : True := ⟨⟩
theorem main.tw6935676897619631941 : True := ⟨⟩
theorem main.tw6981580820607432535 : True := ⟨⟩
theorem main.tw7019240024125815769 : True := ⟨⟩
theorem main.tw7074144079889050967 : True := ⟨⟩
theorem main.tw7083192437325867461 : True := ⟨⟩
theorem main.tw7093617532817203218 : True := ⟨⟩
theorem main.tw7108953243070827183 : True := ⟨⟩
theorem main.tw7139307881021679148 : True := ⟨⟩
theorem main.tw7142256002058171272 : True := ⟨⟩
theorem main.tw7173623326730630234 : True := ⟨⟩
theorem main.tw7186131708394509389 : True := ⟨⟩
theorem main.tw7221758910455160077 : True := ⟨⟩
theorem main.tw7268301785047649679 : True := ⟨⟩
theorem main.tw7293298908176781663 : True := ⟨⟩
theorem main.tw7298748307773712898 : True := ⟨⟩
theorem main.tw7308723440029596264 : True := ⟨⟩
theorem main.tw7332330508316399935 : True := ⟨⟩
theorem main.tw7332552209862256014 : True := ⟨⟩
theorem main.tw7380652910202371479 : True := ⟨⟩
theorem main.tw7411558596216406370 : True := ⟨⟩
theorem main.tw7472237861779093752 : True := ⟨⟩
theorem main.tw7487416344156704005 : True := ⟨⟩
theorem main.tw7590696779544312186 : True := ⟨⟩
theorem main.tw7591743695986301205 : True := ⟨⟩
theorem main.tw7616912838387085065 : True := ⟨⟩
theorem main.tw7623509227018997848 : True := ⟨⟩
theorem main.tw7623511443260959870 : True := ⟨⟩
theorem main.tw7624293977416268664 : True := ⟨⟩
theorem main.tw7639352225515584698 : True := ⟨⟩
theorem main.tw765107192605250810 : True := ⟨⟩
theorem main.tw7668756792840097458 : True := ⟨⟩
theorem main.tw7697417962357392202 : True := ⟨⟩
theorem main.tw7698036289167662538 : True := ⟨⟩
theorem main.tw785246043732427063 : True := ⟨⟩
theorem main.tw7883848961242879871 : True := ⟨⟩
theorem main.tw7884273913378172499 : True := ⟨⟩
theorem main.tw7904437144335635152 : True := ⟨⟩
theorem main.tw796168687070700412 : True := ⟨⟩
theorem main.tw7972779244933481256 : True := ⟨⟩
theorem main.tw799486724532869496 : True := ⟨⟩
theorem main.tw8006537069960932158 : True := ⟨⟩
theorem main.tw8046773169563483271 : True := ⟨⟩
theorem main.tw8079908401900000222 : True := ⟨⟩
theorem main.tw8090509862211737132 : True := ⟨⟩
theorem main.tw8102450764968551371 : True := ⟨⟩
theorem main.tw8153860185051352139 : True := ⟨⟩
theorem main.tw8211959896082780389 : True := ⟨⟩
theorem main.tw8265370782698574782 : True := ⟨⟩
theorem main.tw8283060676807011144 : True := ⟨⟩
theorem main.tw832900586485598795 : True := ⟨⟩
theorem main.tw833945537157984683 : True := ⟨⟩
theorem main.tw834873547066669988 : True := ⟨⟩
theorem main.tw8402242094647718915 : True := ⟨⟩
theorem main.tw8404659333953806752 : True := ⟨⟩
theorem main.tw8427638858588021438 : True := ⟨⟩
theorem main.tw8466321980469482115 : True := ⟨⟩
theorem main.tw8467378866343419333 : True := ⟨⟩
theorem main.tw8475525182357872103 : True := ⟨⟩
theorem main.tw8492455212021363390 : True := ⟨⟩
theorem main.tw8546124895413445307 : True := ⟨⟩
theorem main.tw8548823596671561066 : True := ⟨⟩
theorem main.tw854977524454699277 : True := ⟨⟩
theorem main.tw8557395850702784662 : True := ⟨⟩
theorem main.tw8567518541235275850 : True := ⟨⟩
theorem main.tw8627561154394265716 : True := ⟨⟩
theorem main.tw8632821818552351353 : True := ⟨⟩
theorem main.tw8651587035891514320 : True := ⟨⟩
theorem main.tw8681388529863501421 : True := ⟨⟩
theorem main.tw8809968196449919288 : True := ⟨⟩
theorem main.tw8814557184581894967 : True := ⟨⟩
theorem main.tw8834365191522931223 : True := ⟨⟩
theorem main.tw8879939841973710529 : True := ⟨⟩
theorem main.tw8883465813499100731 : True := ⟨⟩
theorem main.tw8903568455446660058 : True := ⟨⟩
theorem main.tw892681787802806017 : True := ⟨⟩
theorem main.tw8930851030842425676 : True := ⟨⟩
theorem main.tw8984930932524396370 : True := ⟨⟩
theorem main.tw9011639564254621642 : True := ⟨⟩
theorem main.tw9071729483887776986 : True := ⟨⟩
theorem main.tw9155575984036265788 : True := ⟨⟩
theorem main.tw9156686268802561153 : True := ⟨⟩
theorem main.tw9161159452563919750 : True := ⟨⟩
theorem main.tw917386388269078853 : True := ⟨⟩
theorem main.tw9184045479044318644 : True := ⟨⟩
theorem main.tw9189880136782149556 : True := ⟨⟩
theorem main.tw9190990891756207365 : True := ⟨⟩
theorem main.tw9247501659233101145 : True := ⟨⟩
theorem main.tw9249803139623362741 : True := ⟨⟩
theorem main.tw9253799994812790149 : True := ⟨⟩
theorem main.tw9265829497004654079 : True := ⟨⟩
theorem main.tw9274054859765456524 : True := ⟨⟩
theorem main.tw9287587430799945685 : True := ⟨⟩
theorem main.tw9293455121233016472 : True := ⟨⟩
theorem main.tw9303439499767911484 : True := ⟨⟩
theorem main.tw9368617206455126095 : True := ⟨⟩
theorem main.tw9369988214560726041 : True := ⟨⟩
theorem main.tw9381886862466946253 : True := ⟨⟩
theorem main.tw9392487213469676918 : True := ⟨⟩
theorem main.tw9394770849952503311 : True := ⟨⟩
theorem main.tw9417822746687237092 : True := ⟨⟩
theorem main.tw9458421452666605423 : True := ⟨⟩
theorem main.tw9470667924834194258 : True := ⟨⟩
theorem main.tw9483120023164983764 : True := ⟨⟩
theorem main.tw9498315638749924794 : True := ⟨⟩
theorem main.tw9515011664573035354 : True := ⟨⟩
theorem main.tw9557352009045844224 : True := ⟨⟩
theorem main.tw9561784451562097942 : True := ⟨⟩
theorem main.tw9563168847844234846 : True := ⟨⟩
theorem main.tw962032349192862916 : True := ⟨⟩
theorem main.tw9626384672669237482 : True := ⟨⟩
theorem main.tw9656510801202774680 : True := ⟨⟩
theorem main.tw9658885295015712986 : True := ⟨⟩
theorem main.tw9670510015898674028 : True := ⟨⟩
theorem main.tw9681375758050803366 : True := ⟨⟩
theorem main.tw9682133043923132273 : True := ⟨⟩
theorem main.tw9706551924872666739 : True := ⟨⟩
theorem main.tw9716624006974247489 : True := ⟨⟩
theorem main.tw9730157408454304684 : True := ⟨⟩
theorem main.tw9747897558166968733 : True := ⟨⟩
theorem main.tw9756827057097773860 : True := ⟨⟩
theorem main.tw9805168224760091760 : True := ⟨⟩
theorem main.tw983542388872702638 : True := ⟨⟩
theorem main.tw9957550378297406723 : True := ⟨⟩
theorem main.tw9976160756891316704 : True := ⟨⟩
theorem main.tw9994787619460420439 : True := ⟨⟩
theorem main.tw9913782525675966504 : True := ⟨⟩
set_option maxRecDepth 100000 in
set_option maxHeartbeats 8000000 in
set_option Elab.async true in
theorem main : PySem.Challenge.rw_sj0101_01.Holds := by
  w_on
  o_law
  o_head (kHook heapK hAs hAs_is)
  (case hw => w_witness2)
  exact walk _ _ (by kernel_rfl)
end Mine
theorem PySem.Challenge.cw_sj0101_01_holds : PySem.Challenge.rw_sj0101_01.Holds :=
  Mine.main
