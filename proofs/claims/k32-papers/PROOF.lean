import PyProof.Rows.All
import Wide.All
import OpenK.AllK
import Wide.FinOn
import PySem.Challenge.RW_fourread_k32_papers
import HandS.ForMost
import HandS.ForExc
import HandS.Defaults
import HandS.ExcInit
import HandS.ExcField
import HandS.ExcIs
import HandS.Codes
import HandS.EndTab
import KE.KExcInit
import HandS.Head0
import HandS.Head1
import HandS.Head2
import HandS.HeadHook1
import HandS.HeadHook2
import HandS.HeadHook3
import HandS.HeadHook4
import HandS.AnyAll
import HandS.Lambda
import HandS.IsInst
import HandS.Style
import HandS.TupAny
import HandS.TupMul
import HandS.Deep
import HandS.MakeKwOnly
import HandS.Comp
import HandS.IterVal
import HandS.GenList
import HandS.Zip
import PyProof.TupleOfGen
import HandS.Dict
import HandS.WordsExc
import HandS.OwnEq
import PyProof.InstNe
import PyProof.Draws
import PyProof.EnumMake
import KE.GoesMore
import KE.LtData
import KE.SortData
import HandS.Walk
import HandS.Iter
import HandS.Sort
import PyProof.ReprRoads
import HandS.RaiseMore
set_option Elab.async false
-- FrTop
section
set_option Elab.async false
set_option linter.all false
set_option maxRecDepth 100000
namespace Fr
open PySem PySem.Spec PyProof.Rows L2
/-! ### the text by places -/
def tp (i : Nat) : Stmt := PySem.Challenge.pw_fourread_k32_papers.main.body.getD i (.Pass default)
abbrev s_is_integer : Stmt := tp 8
abbrev s_is_between : Stmt := tp 9
abbrev s_is_bit : Stmt := tp 10
abbrev s_is_bits : Stmt := tp 11
abbrev s_is_some_word : Stmt := tp 12
abbrev s_is_word : Stmt := tp 13
abbrev s_bits_number : Stmt := tp 14
abbrev s_check_words : Stmt := tp 15
abbrev s_parity_of : Stmt := tp 16
abbrev s_product_of : Stmt := tp 17
abbrev s_number_of : Stmt := tp 18
abbrev s_zero_word : Stmt := tp 19
abbrev s_is_matrix : Stmt := tp 21
abbrev s_is_some_matrix : Stmt := tp 22
abbrev s_square_from : Stmt := tp 24
abbrev s_square_of : Stmt := tp 25
abbrev s_check_squares : Stmt := tp 26
abbrev s_square_parity : Stmt := tp 27
abbrev s_square_product : Stmt := tp 28
abbrev s_is_square : Stmt := tp 30
abbrev s_rows_together : Stmt := tp 31
abbrev s_are_bits : Stmt := tp 32
abbrev s_first_fault : Stmt := tp 33
abbrev s_paper_of : Stmt := tp 36
abbrev s_Lmixed : Stmt := tp 38
abbrev s_Ltape : Stmt := tp 39
abbrev s_Ldraw : Stmt := tp 40
abbrev s_Lpick : Stmt := tp 41
abbrev s_Lword : Stmt := tp 42
abbrev s_Ltimes_word : Stmt := tp 43
abbrev s_Lsquare_of : Stmt := tp 44
abbrev s_Lflat : Stmt := tp 45
abbrev s_Lrows : Stmt := tp 46
abbrev s_Lsquare : Stmt := tp 47
abbrev s_Lnear_square : Stmt := tp 48
abbrev s_Lnumber : Stmt := tp 49
abbrev s_Lletter : Stmt := tp 50
abbrev s_Ldistinct : Stmt := tp 51
abbrev s_Lsums_paper : Stmt := tp 52
abbrev s_Ltable_paper : Stmt := tp 53
abbrev s_Lmade : Stmt := tp 54
abbrev s_Ltable_refusal : Stmt := tp 55
abbrev s_Lsums_refusal : Stmt := tp 56
abbrev s_Lbad_rows : Stmt := tp 57
abbrev s_Lno_letter : Stmt := tp 58
abbrev s_Lis_paper : Stmt := tp 59
abbrev s_Ltable_right : Stmt := tp 60
abbrev s_Lwrong_row : Stmt := tp 61
abbrev s_Lunlike_near : Stmt := tp 62
abbrev s_Lsums_right : Stmt := tp 63
abbrev s_law : Stmt := tp 64
abbrev s_InvalidWord_init : Stmt := inClass (tp 2) 0
abbrev s_InvalidSquare_init : Stmt := inClass (tp 3) 0
abbrev s_InvalidPaper_init : Stmt := inClass (tp 5) 0
abbrev s_TablePaper_init : Stmt := inClass (tp 34) 0
abbrev s_TablePaper_eq : Stmt := inClass (tp 34) 1
abbrev s_TablePaper_lf : Stmt := inClass (tp 34) 2
abbrev s_TablePaper_lg : Stmt := inClass (tp 34) 3
abbrev s_SumsPaper_init : Stmt := inClass (tp 35) 0
abbrev s_SumsPaper_eq : Stmt := inClass (tp 35) 1
abbrev s_SumsPaper_lf : Stmt := inClass (tp 35) 2
abbrev s_SumsPaper_lg : Stmt := inClass (tp 35) 3
/-! ### what is asked of the head -/
abbrev dd (x : Str) (st : Stmt) : He.DefD := ⟨(x, none), x, x, defArgs st, defBody st, defScope st, [], []⟩
abbrev dm (c m q : Str) (st : Stmt) : He.DefD := ⟨(c, some m), m, q, defArgs st, defBody st, defScope st, [], []⟩
/-- a keyword-only default that is an object -/
def kwAt (f : Str × Option Str) (x : Str) (K : PySem.W.Frag) : Addr :=
  match K.lookup (He.fAd K f) with
  | some ⟨_, _, .func fd, _⟩ => (match fd.kwdefaults with
    | .ref q => (match PySem.W.nsIn K q x with
      | some (some (.ref a)) => a
      | _ => 0)
    | _ => 0)
  | _ => 0
def d_is_integer : He.DefD := dd "is_integer" s_is_integer
def d_is_between : He.DefD := dd "is_between" s_is_between
def d_is_bit : He.DefD := dd "is_bit" s_is_bit
def d_is_bits : He.DefD := dd "is_bits" s_is_bits
def d_is_some_word : He.DefD := dd "is_some_word" s_is_some_word
def d_is_word : He.DefD := dd "is_word" s_is_word
def d_bits_number : He.DefD := dd "bits_number" s_bits_number
def d_check_words : He.DefD := dd "check_words" s_check_words
def d_parity_of : He.DefD := dd "parity_of" s_parity_of
def d_product_of : He.DefD := dd "product_of" s_product_of
def d_number_of : He.DefD := dd "number_of" s_number_of
def d_zero_word : He.DefD := dd "zero_word" s_zero_word
def d_is_matrix : He.DefD := dd "is_matrix" s_is_matrix
def d_is_some_matrix : He.DefD := dd "is_some_matrix" s_is_some_matrix
def d_square_from : He.DefD := dd "square_from" s_square_from
def d_square_of : He.DefD := dd "square_of" s_square_of
def d_check_squares : He.DefD := dd "check_squares" s_check_squares
def d_square_parity : He.DefD := dd "square_parity" s_square_parity
def d_square_product : He.DefD := dd "square_product" s_square_product
def d_is_square : He.DefD := dd "is_square" s_is_square
def d_rows_together : He.DefD := dd "rows_together" s_rows_together
def d_are_bits : He.DefD := dd "_are_bits" s_are_bits
def d_first_fault : He.DefD := dd "_first_fault" s_first_fault
def d_paper_of : He.DefD := dd "paper_of" s_paper_of
def d_Lmixed : He.DefD := dd "_law_mixed" s_Lmixed
def d_Ltape : He.DefD := dd "_law_tape" s_Ltape
def d_Ldraw : He.DefD := dd "_law_draw" s_Ldraw
def d_Lpick : He.DefD := dd "_law_pick" s_Lpick
def d_Lword : He.DefD := dd "_law_word" s_Lword
def d_Ltimes_word : He.DefD := dd "_law_times_word" s_Ltimes_word
def d_Lsquare_of : He.DefD := dd "_law_square_of" s_Lsquare_of
def d_Lflat : He.DefD := dd "_law_flat" s_Lflat
def d_Lrows : He.DefD := dd "_law_rows" s_Lrows
def d_Lsquare : He.DefD := dd "_law_square" s_Lsquare
def d_Lnear_square : He.DefD := dd "_law_near_square" s_Lnear_square
def d_Lnumber : He.DefD := dd "_law_number" s_Lnumber
def d_Lletter : He.DefD := dd "_law_letter" s_Lletter
def d_Ldistinct : He.DefD := dd "_law_distinct" s_Ldistinct
def d_Lsums_paper : He.DefD := dd "_law_sums_paper" s_Lsums_paper
def d_Ltable_paper : He.DefD := dd "_law_table_paper" s_Ltable_paper
def d_Lmade : He.DefD := dd "_law_made" s_Lmade
def d_Ltable_refusal : He.DefD := dd "_law_table_refusal" s_Ltable_refusal
def d_Lsums_refusal : He.DefD := dd "_law_sums_refusal" s_Lsums_refusal
def d_Lbad_rows : He.DefD := dd "_law_bad_rows" s_Lbad_rows
def d_Lno_letter : He.DefD := dd "_law_no_letter" s_Lno_letter
def d_Lis_paper : He.DefD := dd "_law_is_paper" s_Lis_paper
def d_Ltable_right : He.DefD := dd "_law_table_right" s_Ltable_right
def d_Lwrong_row : He.DefD := dd "_law_wrong_row" s_Lwrong_row
def d_Lunlike_near : He.DefD := dd "_law_unlike_near" s_Lunlike_near
def d_Lsums_right : He.DefD := dd "_law_sums_right" s_Lsums_right
def d_law : He.DefD := dd "law" s_law
def d_InvalidWord_init : He.DefD := dm "InvalidWord" "__init__" "InvalidWord.__init__" s_InvalidWord_init
def d_InvalidSquare_init : He.DefD := dm "InvalidSquare" "__init__" "InvalidSquare.__init__" s_InvalidSquare_init
def d_InvalidPaper_init : He.DefD := dm "InvalidPaper" "__init__" "InvalidPaper.__init__" s_InvalidPaper_init
def d_TablePaper_init : He.DefD := dm "TablePaper" "__init__" "TablePaper.__init__" s_TablePaper_init
def d_TablePaper_eq : He.DefD := dm "TablePaper" "__eq__" "TablePaper.__eq__" s_TablePaper_eq
def d_TablePaper_lf : He.DefD := dm "TablePaper" "letter_f" "TablePaper.letter_f" s_TablePaper_lf
def d_TablePaper_lg : He.DefD := dm "TablePaper" "letter_g" "TablePaper.letter_g" s_TablePaper_lg
def d_SumsPaper_init : He.DefD := { dm "SumsPaper" "__init__" "SumsPaper.__init__" s_SumsPaper_init with kwd := [("words", .adr (kwAt ("SumsPaper", some "__init__") "words")), ("squares", .adr (kwAt ("SumsPaper", some "__init__") "squares"))] }
def d_SumsPaper_eq : He.DefD := dm "SumsPaper" "__eq__" "SumsPaper.__eq__" s_SumsPaper_eq
def d_SumsPaper_lf : He.DefD := dm "SumsPaper" "letter_f" "SumsPaper.letter_f" s_SumsPaper_lf
def d_SumsPaper_lg : He.DefD := dm "SumsPaper" "letter_g" "SumsPaper.letter_g" s_SumsPaper_lg
def fn0 : List He.DefD := [d_is_integer, d_is_between, d_is_bit, d_is_bits, d_is_some_word, d_is_word, d_bits_number, d_check_words, d_parity_of, d_product_of, d_number_of, d_zero_word, d_is_matrix, d_is_some_matrix, d_square_from, d_square_of, d_check_squares, d_square_parity, d_square_product, d_is_square, d_rows_together, d_are_bits, d_first_fault, d_paper_of, d_Lmixed, d_Ltape, d_Ldraw, d_Lpick, d_Lword, d_Ltimes_word]
def fn1 : List He.DefD := [d_Lsquare_of, d_Lflat, d_Lrows, d_Lsquare, d_Lnear_square, d_Lnumber, d_Lletter, d_Ldistinct, d_Lsums_paper, d_Ltable_paper, d_Lmade, d_Ltable_refusal, d_Lsums_refusal, d_Lbad_rows, d_Lno_letter, d_Lis_paper, d_Ltable_right, d_Lwrong_row, d_Lunlike_near, d_Lsums_right, d_law, d_InvalidWord_init, d_InvalidSquare_init, d_InvalidPaper_init, d_TablePaper_init, d_TablePaper_eq, d_TablePaper_lf, d_TablePaper_lg, d_SumsPaper_init, d_SumsPaper_eq]
def fn2 : List He.DefD := [d_SumsPaper_lf, d_SumsPaper_lg]
def fn : List He.DefD := fn0 ++ fn1 ++ fn2
def fa0 : List He.Fa := [.glo "is_integer", .glo "is_between", .glo "is_bit", .glo "is_bits", .glo "is_some_word", .glo "is_word", .glo "bits_number", .glo "check_words", .glo "parity_of", .glo "product_of", .glo "number_of", .glo "zero_word", .glo "is_matrix", .glo "is_some_matrix", .glo "square_from", .glo "square_of", .glo "check_squares", .glo "square_parity", .glo "square_product", .glo "is_square", .glo "rows_together", .glo "_are_bits", .glo "_first_fault", .glo "paper_of", .glo "_law_mixed", .glo "_law_tape", .glo "_law_draw", .glo "_law_pick", .glo "_law_word", .glo "_law_times_word"]
def fa1 : List He.Fa := [.glo "_law_square_of", .glo "_law_flat", .glo "_law_rows", .glo "_law_square", .glo "_law_near_square", .glo "_law_number", .glo "_law_letter", .glo "_law_distinct", .glo "_law_sums_paper", .glo "_law_table_paper", .glo "_law_made", .glo "_law_table_refusal", .glo "_law_sums_refusal", .glo "_law_bad_rows", .glo "_law_no_letter", .glo "_law_is_paper", .glo "_law_table_right", .glo "_law_wrong_row", .glo "_law_unlike_near", .glo "_law_sums_right", .glo "law", .glo "InvalidWord", .glo "InvalidSquare", .glo "InvalidPaper", .glo "InvalidSystem", .glo "ReadError", .glo "TablePaper", .glo "SumsPaper", .free "isinstance", .free "int"]
def fa2 : List He.Fa := [.free "bool", .free "tuple", .free "all", .free "len", .free "sum", .free "zip", .free "enumerate", .free "list", .free "range", .free "sorted", .free "repr", .int "LONGEST" 12, .cls "TablePaper", .mkr "TablePaper", .meth "TablePaper" "__eq__", .meth "TablePaper" "letter_f", .meth "TablePaper" "letter_g", .cls "SumsPaper", .mkr "SumsPaper", .meth "SumsPaper" "__eq__", .meth "SumsPaper" "letter_f", .meth "SumsPaper" "letter_g", .noat "TablePaper" "n", .noat "TablePaper" "f", .noat "TablePaper" "g", .noat "SumsPaper" "n", .noat "SumsPaper" "word", .noat "SumsPaper" "square", .noat "SumsPaper" "words", .noat "SumsPaper" "squares"]
def fa3 : List He.Fa := [.noat "InvalidWord" "value", .exm "InvalidWord" "InvalidWord" true, .keep "InvalidWord", .noat "InvalidSquare" "value", .exm "InvalidSquare" "InvalidSquare" true, .keep "InvalidSquare", .noat "InvalidPaper" "part", .noat "InvalidPaper" "place", .exm "InvalidPaper" "InvalidPaper" true, .keep "InvalidPaper"]
def fa : List He.Fa := fa0 ++ fa1 ++ fa2 ++ fa3
/-- the defs whose code objects' tables may grow: those with a generator expression, a lambda -/
def tf : List He.Defn := [("is_bits", none), ("parity_of", none), ("is_matrix", none), ("square_from", none), ("square_parity", none), ("is_square", none), ("_are_bits", none), ("SumsPaper", some "__init__")]
/-- of an own error class: what its making asks -/
def oexB (K : PySem.W.Frag) (C : Addr) : Bool :=
  PySem.W.excInitIn K C He.veBase "ValueError.__new__" && decide (PySem.W.findIn K (.ref C) "__setattr__" = some (some (.builtin "object.__setattr__"))) &&
  decide (PySem.W.subIn K (.ref C) (.type "BaseException") = some true) && decide (PySem.W.typeIn K (.ref C) = some (.type "type")) && PySem.W.keepIn K (.ref C)
/-- .. that its __init__ is a plain def of the text; what isinstance asks of its instances -/
def oexD (K : PySem.W.Frag) (C f : Addr) : Bool :=
  decide (PySem.W.findIn K (.ref C) "__init__" = some (some (.ref f))) && decide (PySem.W.typeIn K (.ref f) = some (.type "function")) && xfB K C &&
  decide (PySem.W.findIn K (.ref C) "__class__" = some (some (.builtin "object.__class__"))) && decide (PySem.W.mroIn K C (.type "object") = some true)
def insB (K : PySem.W.Frag) (C : Addr) : Bool :=
  decide (PySem.W.findIn K (.ref C) "__class__" = some (some (.builtin "object.__class__"))) && decide (PySem.W.mroIn K C (.type "object") = some true) && decide (PySem.W.findIn K (.ref C) "__ne__" = some (some (.builtin "object.__ne__")))
def kit1 (K : PySem.W.Frag) (x y : Value) (b : Bool) : Bool := decide (PySem.W.kitOne K x y = some b)
def emptyT (K : PySem.W.Frag) (a : Addr) : Bool := match K.lookup a with
  | some ⟨.type c, _, .seq its _, _⟩ => decide (c = "tuple") && its.isEmpty
  | _ => false
def gV (K : PySem.W.Frag) (x : Str) : Value := .ref (He.ga K x)
def moreB (K : PySem.W.Frag) : Bool :=
  oexB K (He.ga K "InvalidWord") && oexB K (He.ga K "InvalidSquare") && oexB K (He.ga K "InvalidPaper") &&
  oexD K (He.ga K "InvalidWord") (He.fAd K ("InvalidWord", some "__init__")) && oexD K (He.ga K "InvalidSquare") (He.fAd K ("InvalidSquare", some "__init__")) && oexD K (He.ga K "InvalidPaper") (He.fAd K ("InvalidPaper", some "__init__")) &&
  insB K (He.ga K "TablePaper") && insB K (He.ga K "SumsPaper") &&
  kit1 K (gV K "InvalidPaper") (gV K "ReadError") true && kit1 K (gV K "InvalidPaper") (gV K "InvalidSystem") false &&
  kit1 K (gV K "TablePaper") (gV K "TablePaper") true && kit1 K (gV K "SumsPaper") (gV K "SumsPaper") true && kit1 K (gV K "SumsPaper") (gV K "TablePaper") false && kit1 K (gV K "TablePaper") (gV K "SumsPaper") false &&
  kit1 K (.type "tuple") (gV K "TablePaper") false && kit1 K (.type "tuple") (gV K "SumsPaper") false && kit1 K (.type "NoneType") (gV K "TablePaper") false &&
  decide (PySem.W.specialIn K (.builtin "object.__class__") "__get__" = some (some (.builtin "getset_descriptor.__get__"))) && decide (PySem.W.takesIn K (.builtin "object.__class__") = some true) &&
  decide (PySem.W.subIn K (gV K "SumsPaper") (gV K "TablePaper") = some false) && decide (PySem.W.subIn K (.type "tuple") (gV K "TablePaper") = some false) && decide (PySem.W.subIn K (.type "tuple") (gV K "SumsPaper") = some false) && decide (PySem.W.subIn K (.type "NoneType") (gV K "TablePaper") = some false) &&
  emptyT K (kwAt ("SumsPaper", some "__init__") "words" K) && emptyT K (kwAt ("SumsPaper", some "__init__") "squares" K) &&
  (tf.take 7).all (fun p => decide ((He.cT K p).2 ≠ (He.cT K ("SumsPaper", some "__init__")).2))
/-! ### the run -/
abbrev RR : PySem.W.OpenRow := PySem.W.OpenLaw.row PySem.Challenge.rw_fourread_k32_papers
abbrev hk : PySem.W.Hook := He.hookX 5 fa fn [] tf moreB
def ob (s : PySem.W.SharedT) : He.AlX := He.obsX 5 fa fn [] tf moreB (HandSHeadRun.getT s)
theorem ob_eq (s : PySem.W.SharedT) : ob s = hk.obs s.abs := He.obsX_eq (HandSHeadRun.getT_eq s)
def ln0 : List PySem.Str := ["ReadError", "InvalidWord", "InvalidSquare", "InvalidSystem", "InvalidPaper", "LONGEST", "is_integer", "is_between", "is_bit", "is_bits", "is_some_word", "is_word", "bits_number", "check_words", "parity_of", "product_of", "number_of", "zero_word", "is_matrix", "is_some_matrix", "square_from", "square_of", "check_squares", "square_parity", "square_product", "is_square", "rows_together", "_are_bits", "_first_fault", "paper_of"]
def ln1 : List PySem.Str := ["_law_mixed", "_law_tape", "_law_draw", "_law_pick", "_law_word", "_law_times_word", "_law_square_of", "_law_flat", "_law_rows", "_law_square", "_law_near_square", "_law_number", "_law_letter", "_law_distinct", "_law_sums_paper", "_law_table_paper", "_law_made", "_law_table_refusal", "_law_sums_refusal", "_law_bad_rows", "_law_no_letter", "_law_is_paper", "_law_table_right", "_law_wrong_row", "_law_unlike_near", "_law_sums_right", "TablePaper", "SumsPaper"]
def ln : List PySem.Str := ln0 ++ ln1
end Fr
end
-- FrRun
section
set_option Elab.async false
set_option linter.all false
set_option maxRecDepth 100000
set_option maxHeartbeats 0
namespace Fr
open PySem PySem.Spec PyProof.Rows L2
theorem run (w : World) : HandSHeadRun.RunEq RR (PySem.W.view RR.prog [64]) hk ob 12000 ln w := by
  intro os
  kernel_rfl
end Fr
end
-- FrBase
section
set_option Elab.async false
set_option linter.all false
set_option maxRecDepth 100000
/-! Data over the hand layer: deep data D, how a value holds them (Dat), what every def keeps of the heap (Kp), judgements over data. -/
namespace Fr
open PySem PySem.Spec PyProof.Rows L2
/-! ### data -/
inductive D where
  | non | bl (b : Bool) | int (i : Int) | str (x : Str)
  | tup (l : List D) | lst (l : List D)
  | dic (l : List (Str × D))
  | obj (c : Nat) (l : List D)
  | tape
  | fnc (f c : Addr)
  | exn (a dx : Addr) (c : Nat) (l : List D)
  | scr (l : List Int)
/-- what a name holds: nothing that is told; a datum; one that stood at the base already; a list of the def's own, which it may still change; an instance in the making, its fields so far -/
inductive Sl where
  | no | v (d : D) | b (d : D) | ow (l : List D) | ini (a : Addr) (c : Nat) (l : List D)
/-- what a name's read gives -/
def Sl.val : Sl → Option D
  | .v d => some d
  | .b d => some d
  | _ => none
abbrev wd (l : List Int) : D := .tup (l.map .int)
abbrev sq (l : List (List Int)) : D := .tup (l.map wd)
/-- the two classes of papers, their fields -/
def cA (K : PySem.W.Frag) : Nat → Addr
  | 0 => He.ga K "TablePaper"
  | _ => He.ga K "SumsPaper"
def fN : Nat → List Str
  | 0 => ["n", "f", "g"]
  | _ => ["n", "word", "square", "words", "squares"]
/-- the three error classes, their fields -/
def xA (K : PySem.W.Frag) : Nat → Addr
  | 0 => He.ga K "InvalidWord"
  | 1 => He.ga K "InvalidSquare"
  | _ => He.ga K "InvalidPaper"
def xN : Nat → List Str
  | 0 => ["value"]
  | 1 => ["value"]
  | _ => ["place", "part"]
/-! ### the tape, the tables -/
def tapeK : List Key := [.inr "cells", .inr "at", .inr "great", .inr "left", .inr "seed", .inr "turn"]
def tapeV (l : Addr) (at_ g lf sd tn : Int) : List (Key × V) :=
  [(.inr "cells", .ref l), (.inr "at", .int at_), (.inr "great", .int g), (.inr "left", .int lf), (.inr "seed", .int sd), (.inr "turn", .int tn)]
def TapeAt (H : Hp) (a l : Addr) : Prop :=
  ∃ (cs : List Int) (at_ g lf sd tn : Int), H a = some (.dK (tapeV l at_ g lf sd tn)) ∧ H l = some (.lst (cs.map V.int)) ∧ 0 ≤ at_
/-- the tables of the defs with a generator expression; the one with lambdas -/
def gtab (K : PySem.W.Frag) : List Addr := (tf.take 7).map fun p => (He.cT K p).2
def lamQ : Str := "SumsPaper.__init__" ++ ".<locals>." ++ "<lambda>"
def ltab (K : PySem.W.Frag) : Addr := (He.cT K ("SumsPaper", some "__init__")).2
def Tabs (K : PySem.W.Frag) (H : Hp) : Prop := (∀ P ∈ gtab K, GxR.TabG H P) ∧ LamX.TabS H (ltab K) lamQ
/-- what no def of ours ever changes -/
def Stable : HO → Prop
  | .tbl _ => False
  | .dK kvs => kvs.map (·.1) ≠ tapeK
  | _ => True
structure Kp (K : PySem.W.Frag) (H H' : Hp) : Prop where
  st : ∀ p o, H p = some o → Stable o → H' p = some o
  tp : ∀ a l, TapeAt H a l → TapeAt H' a l
  tb : Tabs K H → Tabs K H'
  dm : ∀ p, H' p = none → H p = none
section
variable {K : PySem.W.Frag} {H H1 H2 H' : Hp}
theorem Kp.refl (K : PySem.W.Frag) (H : Hp) : Kp K H H := ⟨fun _ _ e _ => e, fun _ _ t => t, fun t => t, fun _ e => e⟩
theorem Kp.trans (a : Kp K H H1) (b : Kp K H1 H2) : Kp K H H2 :=
  ⟨fun p o e s => b.st p o (a.st p o e s) s, fun t l h => b.tp t l (a.tp t l h), fun t => b.tb (a.tb t), fun p e => a.dm p (b.dm p e)⟩
/-- nothing that was tracked is gone -/
theorem Kp.of_ext (e : ∀ p o, H p = some o → H' p = some o) : Kp K H H' := by
  refine ⟨fun p o h _ => e p o h, fun a l ⟨cs, at_, g, lf, sd, tn, h1, h2, h3⟩ => ⟨cs, at_, g, lf, sd, tn, e _ _ h1, e _ _ h2, h3⟩, fun ⟨t1, t2⟩ => ⟨fun P hP => ?_, t2.ext e⟩, fun p h => ?_⟩
  · obtain ⟨ps, h, t⟩ := t1 P hP
    exact ⟨ps, e _ _ h, t⟩
  · cases q : H p with
    | none => rfl
    | some o =>
      rw [e p o q] at h
      cases h
theorem ne_new {p b : Addr} {o : HO} (h : H p = none) (e : H b = some o) : b ≠ p := fun z => by rw [z, h] at e; cases e
theorem Kp.new {p : Addr} {o : HO} (h : H p = none) : Kp K H (upd H p o) := .of_ext fun b u e => by
  rw [upd_ne (ne_new h e)]
  exact e
/-- what may be changed: no table, no code object -/
def Soft (u : HO) : Prop := (∀ ps, u ≠ .tbl ps) ∧ ∀ c q, u ≠ LamX.CodeO c q
theorem soft_lst {xs : List V} : Soft (.lst xs) := ⟨fun _ z => (by cases z), fun _ _ z => (by unfold LamX.CodeO at z; cases z)⟩
theorem soft_ins {C dx : Addr} {fs : List (Str × V)} : Soft (.ins C dx fs) := ⟨fun _ z => (by cases z), fun _ _ z => (by unfold LamX.CodeO at z; cases z)⟩
/-- a thing that was not tracked at the start is changed -/
theorem Kp.mut {p : Addr} {o u : HO} (k : Kp K H H1) (hp : H p = none) (h1 : H1 p = some u) (so : Soft u) : Kp K H (upd H1 p o) := by
  obtain ⟨nt, nc⟩ := so
  refine ⟨fun b v e s => ?_, fun a l t => ?_, fun t => ?_, fun b e => ?_⟩
  · rw [upd_ne (ne_new hp e)]
    exact k.st b v e s
  · obtain ⟨_, _, _, _, _, _, z1, z2, _⟩ := id t
    obtain ⟨cs, at_, g, lf, sd, tn, e1, e2, e3⟩ := k.tp a l t
    exact ⟨cs, at_, g, lf, sd, tn, by rw [upd_ne (ne_new hp z1)]; exact e1, by rw [upd_ne (ne_new hp z2)]; exact e2, e3⟩
  · obtain ⟨t1, ps, e1, e2, e3⟩ := k.tb t
    refine ⟨fun P hP => ?_, ps, ?_, e2, fun pos cv hc => ?_⟩
    · obtain ⟨qs, h, r⟩ := t1 P hP
      refine ⟨qs, ?_, r⟩
      rw [upd_ne (fun z => nt qs (Option.some.inj (h1.symm.trans (by rw [← z]; exact h))))]
      exact h
    · rw [upd_ne (fun z => nt ps (Option.some.inj (h1.symm.trans (by rw [← z]; exact e1))))]
      exact e1
    · obtain ⟨c, z1, z2⟩ := e3 pos cv hc
      refine ⟨c, z1, ?_⟩
      rw [upd_ne (fun z => nc c lamQ (Option.some.inj (h1.symm.trans (by rw [← z]; exact z2))))]
      exact z2
  · by_cases hb : b = p
    · rw [hb]; exact hp
    · rw [upd_ne hb] at e
      exact k.dm b e
end
/-! ### how a value holds data -/
mutual
inductive Dat (K : PySem.W.Frag) (H : Hp) : V → D → Prop
  | non : Dat K H .non .non
  | bl (b : Bool) : Dat K H (.bl b) (.bl b)
  | int (i : Int) : Dat K H (.int i) (.int i)
  | str (x : Str) : Dat K H (.str x) (.str x)
  | tup {a : Addr} {xs : List V} {ds : List D} : SqT K H a xs → DatL K H xs ds → Dat K H (.ref a) (.tup ds)
  | lst {a : Addr} {xs : List V} {ds : List D} : H a = some (.lst xs) → DatL K H xs ds → Dat K H (.ref a) (.lst ds)
  | dic {a : Addr} {kvs : List (Key × V)} {ds : List (Str × D)} : H a = some (.dK kvs) → kvs.map (·.1) ≠ tapeK → DatK K H kvs ds → Dat K H (.ref a) (.dic ds)
  | obj {a dx : Addr} {c : Nat} {fs : List (Str × V)} {ds : List D} : H a = some (.ins (cA K c) dx fs) → DatF K H fs (fN c) ds → Dat K H (.ref a) (.obj c ds)
  | tape {a l : Addr} : TapeAt H a l → Dat K H (.ref a) .tape
  | fnc {f c : Addr} : H c = some (LamX.CodeO c lamQ) → Dat K H (.ref f) (.fnc f c)
  | exn {a dx : Addr} {c : Nat} {fs : List (Str × V)} {ds : List D} : H dx = some (.xd fs) → DatF K H fs (xN c) ds → Dat K H (.ref a) (.exn a dx c ds)
  | scr {a : Addr} {l : List Int} : SqL K H a (l.map V.int) → Dat K H (.ref a) (.scr l)
inductive DatL (K : PySem.W.Frag) (H : Hp) : List V → List D → Prop
  | nil : DatL K H [] []
  | cons {v : V} {vs : List V} {d : D} {ds : List D} : Dat K H v d → DatL K H vs ds → DatL K H (v :: vs) (d :: ds)
inductive DatK (K : PySem.W.Frag) (H : Hp) : List (Key × V) → List (Str × D) → Prop
  | nil : DatK K H [] []
  | cons {k : Str} {v : V} {vs : List (Key × V)} {d : D} {ds : List (Str × D)} : Dat K H v d → DatK K H vs ds → DatK K H ((.inr k, v) :: vs) ((k, d) :: ds)
inductive DatF (K : PySem.W.Frag) (H : Hp) : List (Str × V) → List Str → List D → Prop
  | nil : DatF K H [] [] []
  | cons {n : Str} {v : V} {vs : List (Str × V)} {ns : List Str} {d : D} {ds : List D} : Dat K H v d → DatF K H vs ns ds → DatF K H ((n, v) :: vs) (n :: ns) (d :: ds)
end
section
variable {K : PySem.W.Frag} {H H1 H2 H' : Hp}
theorem sqT_keep (k : Kp K H H') {a : Addr} {xs : List V} (h : SqT K H a xs) : SqT K H' a xs := by
  rcases h with (h | ⟨o, h⟩) | h
  · exact .inl (.inl (k.st _ _ h trivial))
  · exact .inl (.inr ⟨o, k.st _ _ h trivial⟩)
  · exact .inr h
theorem sqL_keep (k : Kp K H H') {a : Addr} {xs : List V} (h : SqL K H a xs) : SqL K H' a xs := by
  rcases h with (h | ⟨o, h⟩) | h
  · exact .inl (.inl (k.st _ _ h trivial))
  · exact .inl (.inr ⟨o, k.st _ _ h trivial⟩)
  · exact .inr h
mutual
theorem Dat.keep (k : Kp K H H') : ∀ {v : V} {d : D}, Dat K H v d → Dat K H' v d
  | _, _, .non => .non
  | _, _, .bl b => .bl b
  | _, _, .int i => .int i
  | _, _, .str x => .str x
  | _, _, .tup h l => .tup (sqT_keep k h) (DatL.keep k l)
  | _, _, .lst h l => .lst (k.st _ _ h trivial) (DatL.keep k l)
  | _, _, .dic h n l => .dic (k.st _ _ h n) n (DatK.keep k l)
  | _, _, .obj h l => .obj (k.st _ _ h trivial) (DatF.keep k l)
  | _, _, .tape h => .tape (k.tp _ _ h)
  | _, _, .fnc h => .fnc (k.st _ _ h trivial)
  | _, _, .exn h l => .exn (k.st _ _ h trivial) (DatF.keep k l)
  | _, _, .scr h => .scr (sqL_keep k h)
theorem DatL.keep (k : Kp K H H') : ∀ {v : List V} {d : List D}, DatL K H v d → DatL K H' v d
  | _, _, .nil => .nil
  | _, _, .cons h l => .cons (Dat.keep k h) (DatL.keep k l)
theorem DatK.keep (k : Kp K H H') : ∀ {v : List (Key × V)} {d : List (Str × D)}, DatK K H v d → DatK K H' v d
  | _, _, .nil => .nil
  | _, _, .cons h l => .cons (Dat.keep k h) (DatK.keep k l)
theorem DatF.keep (k : Kp K H H') : ∀ {v : List (Str × V)} {n : List Str} {d : List D}, DatF K H v n d → DatF K H' v n d
  | _, _, _, .nil => .nil
  | _, _, _, .cons h l => .cons (Dat.keep k h) (DatF.keep k l)
end
theorem DatL.length : ∀ {v : List V} {d : List D}, DatL K H v d → v.length = d.length
  | _, _, .nil => rfl
  | _, _, .cons _ l => by rw [List.length_cons, List.length_cons, DatL.length l]
theorem DatL.get : ∀ {v : List V} {d : List D} {i : Nat} {x : D}, DatL K H v d → d[i]? = some x → ∃ u, v[i]? = some u ∧ Dat K H u x
  | _, _, 0, _, .cons h _, e => by
    cases e
    exact ⟨_, rfl, h⟩
  | _, _, i + 1, _, .cons _ l, e => DatL.get (i := i) l e
theorem DatL.getV : ∀ {v : List V} {d : List D} {i : Nat} {u : V}, DatL K H v d → v[i]? = some u → ∃ x, d[i]? = some x ∧ Dat K H u x
  | _, _, 0, _, .cons h _, e => by
    cases e
    exact ⟨_, rfl, h⟩
  | _, _, i + 1, _, .cons _ l, e => DatL.getV (i := i) l e
theorem DatL.append : ∀ {v : List V} {d : List D} {v2 : List V} {d2 : List D}, DatL K H v d → DatL K H v2 d2 → DatL K H (v ++ v2) (d ++ d2)
  | _, _, _, _, .nil, b => b
  | _, _, _, _, .cons h l, b => .cons h (DatL.append l b)
theorem DatL.take : ∀ {v : List V} {d : List D} (n : Nat), DatL K H v d → DatL K H (v.take n) (d.take n)
  | _, _, 0, _ => by rw [List.take_zero, List.take_zero]; exact .nil
  | _, _, _ + 1, .nil => by rw [List.take_nil, List.take_nil]; exact .nil
  | _, _, n + 1, .cons h l => .cons h (DatL.take n l)
theorem DatL.drop : ∀ {v : List V} {d : List D} (n : Nat), DatL K H v d → DatL K H (v.drop n) (d.drop n)
  | _, _, 0, l => l
  | _, _, _ + 1, .nil => by rw [List.drop_nil, List.drop_nil]; exact .nil
  | _, _, n + 1, .cons _ l => DatL.drop n l
theorem DatL.set {x : V} {y : D} (h : Dat K H x y) : ∀ {v : List V} {d : List D} (i : Nat), DatL K H v d → DatL K H (v.set i x) (d.set i y)
  | _, _, _, .nil => .nil
  | _, _, 0, .cons _ l => .cons h l
  | _, _, i + 1, .cons h' l => .cons h' (DatL.set h i l)
/-- ints -/
theorem DatL.ints : ∀ {v : List V} {l : List Int}, DatL K H v (l.map D.int) → v = l.map V.int
  | _, [], .nil => rfl
  | _, i :: l, .cons h r => by
    cases h
    rw [DatL.ints r]
    rfl
theorem datL_ints : ∀ (l : List Int), DatL K H (l.map V.int) (l.map D.int)
  | [] => .nil
  | i :: l => .cons (.int i) (datL_ints l)
end
/-! ### slots -/
/-- a list of the def's own: no datum speaks of it -/
def OwnL (a : Addr) (xs : List V) : HO := .ext fun h => xs.length ≤ sizeLine ∧ ∃ (its : List Value) (n : Nat), Vals xs its ∧ h.get? a = some { cls := .type "list", data := .seq its.toArray n }
def SlAt (K : PySem.W.Frag) (H : Hp) (o : Option V) : Sl → Prop
  | .no => True
  | .v d => ∃ v, o = some v ∧ Dat K H v d
  | .b d => ∃ v, o = some v ∧ Dat K H v d
  | .ow l => ∃ a xs, o = some (.ref a) ∧ H a = some (OwnL a xs) ∧ DatL K H xs l
  | .ini a c l => ∃ dx fs, o = some (.ref a) ∧ H a = some (.ins (cA K c) dx fs) ∧ DatF K H fs ((fN c).take l.length) l
theorem SlAt.keep {K : PySem.W.Frag} {H H' : Hp} {o : Option V} (k : Kp K H H') : ∀ {s : Sl}, SlAt K H o s → SlAt K H' o s
  | .no, _ => trivial
  | .v _, ⟨v, e, h⟩ => ⟨v, e, h.keep k⟩
  | .b _, ⟨v, e, h⟩ => ⟨v, e, h.keep k⟩
  | .ow _, ⟨a, xs, e, h, l⟩ => ⟨a, xs, e, k.st _ _ h trivial, l.keep k⟩
  | .ini _ _ _, ⟨dx, fs, e, h, l⟩ => ⟨dx, fs, e, k.st _ _ h trivial, l.keep k⟩
def Ek (K : PySem.W.Frag) (H : Hp) (σ : L2.St) (δ : List Sl) : Prop :=
  Tabs K H ∧ σ.length = δ.length ∧ ∀ (i : Nat) (s : Sl), δ[i]? = some s → ∃ o, σ[i]? = some o ∧ SlAt K H o s
section
variable {K : PySem.W.Frag} {H H' : Hp} {σ : L2.St} {δ : List Sl}
theorem Ek.keep (k : Kp K H H') (h : Ek K H σ δ) : Ek K H' σ δ :=
  ⟨k.tb h.1, h.2.1, fun i s e => let ⟨o, e1, e2⟩ := h.2.2 i s e; ⟨o, e1, e2.keep k⟩⟩
theorem Ek.at_ (h : Ek K H σ δ) {i : Nat} {d : D} (e : δ[i]?.bind Sl.val = some d) : ∃ v, σ[i]? = some (some v) ∧ Dat K H v d := by
  cases q : δ[i]? with
  | none =>
    rw [q] at e
    cases e
  | some s =>
    rw [q] at e
    obtain ⟨o, e1, e2⟩ := h.2.2 i s q
    cases s with
    | v d' =>
      cases e
      obtain ⟨v, rfl, hd⟩ := e2
      exact ⟨v, e1, hd⟩
    | b d' =>
      cases e
      obtain ⟨v, rfl, hd⟩ := e2
      exact ⟨v, e1, hd⟩
    | ow l => cases e
    | no => cases e
    | ini a c l => cases e
theorem Ek.put (h : Ek K H σ δ) (i : Nat) {o : Option V} {s : Sl} (hs : SlAt K H o s) : Ek K H (σ.set i o) (δ.set i s) := by
  refine ⟨h.1, by rw [List.length_set, List.length_set]; exact h.2.1, fun j x e => ?_⟩
  rw [List.getElem?_set] at e ⊢
  by_cases hij : i = j
  · subst hij
    rw [if_pos rfl] at e ⊢
    by_cases hl : i < δ.length
    · rw [if_pos hl] at e
      rw [if_pos (by rw [h.2.1]; exact hl)]
      cases e
      exact ⟨o, rfl, hs⟩
    · rw [if_neg hl] at e
      cases e
  · rw [if_neg hij] at e ⊢
    exact h.2.2 j x e
theorem Ek.set (h : Ek K H σ δ) {v : V} {d : D} (i : Nat) (hd : Dat K H v d) : Ek K H (σ.set i (some v)) (δ.set i (.v d)) := h.put i ⟨v, rfl, hd⟩
theorem Ek.weak (h : Ek K H σ δ) {δ' : List Sl} (hl : δ'.length = δ.length) (w : ∀ (i : Nat) (s : Sl), δ'[i]? = some s → s = .no ∨ δ[i]? = some s) : Ek K H σ δ' := by
  refine ⟨h.1, by rw [hl]; exact h.2.1, fun i s e => ?_⟩
  rcases w i s e with z | z
  · subst z
    have hi : i < σ.length := by
      rw [h.2.1, ← hl]
      exact (List.getElem?_eq_some_iff.mp e).1
    exact ⟨σ[i], List.getElem?_eq_getElem hi, trivial⟩
  · exact h.2.2 i s z
end
/-! ### judgements over data: what must hold of the answers -/
section
variable (X : Cx)
def tE (e : Expr) : TE := fun σ H Q => ∀ (pins : List (Addr × Obj)) (s : Shared), Inv X pins σ H s → wpAny (model X.prog X.w) X.A (eval e X.env) (EP X pins σ Q) X.xe s
def tT (e : Expr) : TT := fun σ H Q => ∀ (pins : List (Addr × Obj)) (s : Shared), Inv X pins σ H s → wpAny (model X.prog X.w) X.A (isTrue e X.env (eval e X.env)) (TP X pins σ Q) X.xe s
def tA (es : List Expr) : TA := fun σ H Q => ∀ (pos : Pos) (pins : List (Addr × Obj)) (s : Shared), Inv X pins σ H s → wpAny (model X.prog X.w) X.A (spliced (backTo pos (starEach es X.env))) (AP X pins σ Q) X.xe s
def tS (st : Stmt) : TS := fun D σ H => ∀ (pins : List (Addr × Obj)) (s : Shared), Inv X pins σ H s → wpAny (model X.prog X.w) X.A (exec st X.env) (SP X pins D) X.xe s
def tSs (st : List Stmt) : TS := fun D σ H => ∀ (pins : List (Addr × Obj)) (s : Shared), Inv X pins σ H s → wpAny (model X.prog X.w) X.A (execs st X.env) (SP X pins D) X.xe s
end
section
variable {X : Cx} {e : Expr} {es : List Expr} {st : Stmt} {sts : List Stmt}
theorem pe_E : PE X e (tE X e) := ⟨fun pins s _ _ _ I h => h pins s I⟩
theorem pt_T : PT X e (tT X e) := ⟨fun pins s _ _ _ I h => h pins s I⟩
theorem pa_A : PA X es (tA X es) := ⟨fun pos pins s _ _ _ I h => h pos pins s I⟩
theorem ps_S : PS X st (tS X st) := ⟨fun pins s _ _ _ I h => h pins s I⟩
theorem pss_S : PSs X sts (tSs X sts) := ⟨fun pins s _ _ _ I h => h pins s I⟩
end
/-- how an answer is handed on -/
abbrev Kd (K : PySem.W.Frag) (H : Hp) (Φ : D → Prop) (Q : VK) : Prop := ∀ d v H', Φ d → Kp K H H' → Dat K H' v d → Q v H'
abbrev Kb (K : PySem.W.Frag) (H : Hp) (Φ : Bool → Prop) (Q : Bool → Hp → Prop) : Prop := ∀ b H', Φ b → Kp K H H' → Q b H'
abbrev Kl (K : PySem.W.Frag) (H : Hp) (Φ : List D → Prop) (Q : List V → Hp → Prop) : Prop := ∀ ds vs H', Φ ds → Kp K H H' → DatL K H' vs ds → Q vs H'
def DE (X : Cx) (e : Expr) (δ : List Sl) (Φ : D → Prop) : Prop := ∀ σ H Q, Ek X.K H σ δ → Kd X.K H Φ Q → tE X e σ H Q
def DT (X : Cx) (e : Expr) (δ : List Sl) (Φ : Bool → Prop) : Prop := ∀ σ H Q, Ek X.K H σ δ → Kb X.K H Φ Q → tT X e σ H Q
def DA (X : Cx) (es : List Expr) (δ : List Sl) (Φ : List D → Prop) : Prop := ∀ σ H Q, Ek X.K H σ δ → Kl X.K H Φ Q → tA X es σ H Q
section
variable {X : Cx} {e : Expr} {es : List Expr} {δ : List Sl}
theorem DE.of {t : TE} {Φ : D → Prop} (h : PE X e t) (hh : ∀ σ H Q, Ek X.K H σ δ → Kd X.K H Φ Q → t σ H Q) : DE X e δ Φ := fun σ H Q en k pins s I => h.run pins s σ H Q I (hh σ H Q en k)
theorem DT.of {t : TT} {Φ : Bool → Prop} (h : PT X e t) (hh : ∀ σ H Q, Ek X.K H σ δ → Kb X.K H Φ Q → t σ H Q) : DT X e δ Φ := fun σ H Q en k pins s I => h.run pins s σ H Q I (hh σ H Q en k)
theorem DA.of {t : TA} {Φ : List D → Prop} (h : PA X es t) (hh : ∀ σ H Q, Ek X.K H σ δ → Kl X.K H Φ Q → t σ H Q) : DA X es δ Φ := fun σ H Q en k pos pins s I => h.run pos pins s σ H Q I (hh σ H Q en k)
theorem DE.imp {Φ Ψ : D → Prop} (h : DE X e δ Φ) (hh : ∀ d, Φ d → Ψ d) : DE X e δ Ψ := fun σ H Q en k => h σ H Q en fun d v H' p => k d v H' (hh d p)
theorem DT.imp {Φ Ψ : Bool → Prop} (h : DT X e δ Φ) (hh : ∀ d, Φ d → Ψ d) : DT X e δ Ψ := fun σ H Q en k => h σ H Q en fun d H' p => k d H' (hh d p)
theorem DA.imp {Φ Ψ : List D → Prop} (h : DA X es δ Φ) (hh : ∀ d, Φ d → Ψ d) : DA X es δ Ψ := fun σ H Q en k => h σ H Q en fun d v H' p => k d v H' (hh d p)
end
end Fr
end
-- FrExpr
section
set_option Elab.async false
set_option linter.all false
set_option maxRecDepth 100000
/-! Expressions over data. -/
namespace Fr
open PySem PySem.Spec PyProof.Rows L2
section
variable {X : Cx} {δ : List Sl} {Φ : D → Prop} {Φb : Bool → Prop} {a b c e : Expr} {es : List Expr} {pos p : Pos} {x : Str}
/-! ### names, constants -/
theorem de_var (i : Nat) {d : D} (hN : X.N[i]? = some x) (hv : Vis X.env.scope x) (hd : δ[i]?.bind Sl.val = some d) (h : Φ d) (h1 : (x == ("__debug__" : Str)) = false := by decide) (h2 : (x == ("__classdict__" : Str)) = false := by decide) :
    DE X (.Name x pos) δ Φ := .of (pe_var (i := i) hN hv h1 h2) fun σ H Q en k =>
  let ⟨v, e, z⟩ := en.at_ hd
  ⟨v, e, k d v H h (Kp.refl _ _) z⟩
theorem de_int {i : Int} {j : Nat} (h : Φ (.int i)) : DE X (.Constant (.int i) j pos) δ Φ := .of pe_int fun σ H Q en k => k _ _ H h (Kp.refl _ _) (.int i)
theorem de_bl {i : Bool} {j : Nat} (h : Φ (.bl i)) : DE X (.Constant (.bool i) j pos) δ Φ := .of pe_bl fun σ H Q en k => k _ _ H h (Kp.refl _ _) (.bl i)
theorem de_non {j : Nat} (h : Φ .non) : DE X (.Constant .none j pos) δ Φ := .of pe_non fun σ H Q en k => k _ _ H h (Kp.refl _ _) .non
theorem de_str {s : Str} {j : Nat} (h : Φ (.str s)) : DE X (.Constant (.str s) j pos) δ Φ := .of pe_str fun σ H Q en k => k _ _ H h (Kp.refl _ _) (.str s)
theorem de_gint {i : Int} (hg : Gl X x) (hm : ∃ t, X.mg x = some (.int i t)) (h : Φ (.int i)) (hd : (x == ("__debug__" : Str)) = false := by decide) : DE X (.Name x pos) δ Φ := by
  obtain ⟨t, hm⟩ := hm
  exact .of (pe_glob (v := .int i) hg hm ⟨t, rfl⟩ hd) fun σ H Q en k => k _ _ H h (Kp.refl _ _) (.int i)
/-! ### two operands -/
theorem two {ta tb : TE} {Ψ : D → D → Prop} {σ : L2.St} {H : Hp} {R : V → V → Hp → Prop} (ha : DE X a δ fun x => DE X b δ fun y => Ψ x y) (en : Ek X.K H σ δ)
    (h : ∀ x y v w H', Ψ x y → Kp X.K H H' → Dat X.K H' v x → Dat X.K H' w y → Ek X.K H' σ δ → R v w H') : tE X a σ H fun v H1 => tE X b σ H1 fun w H2 => R v w H2 :=
  ha σ H _ en fun x v H1 hb k1 d1 => hb σ H1 _ (en.keep k1) fun y w H2 hΨ k2 d2 => h x y v w H2 hΨ (k1.trans k2) (d1.keep k2) d2 ((en.keep k1).keep k2)
/-- what an operator gives on data -/
def OD (X : Cx) (r : R2) (x y : D) (Φ : D → Prop) : Prop := ∀ H v w Q, Dat X.K H v x → Dat X.K H w y → Kd X.K H Φ Q → r v w H Q
theorem de_op {op : Operator} {r : R2} (ho : OpR X (binaryOp op) r) (h : DE X a δ fun x => DE X b δ fun y => OD X r x y Φ) : DE X (.BinOp a op b pos) δ Φ :=
  .of (pe_op ho pe_E pe_E) fun σ H Q en k => two (ta := tE X a) (tb := tE X b) h en fun x y v w H' o kp d1 d2 _ => o H' v w Q d1 d2 fun d u H2 p k2 => k d u H2 p (kp.trans k2)
theorem de_cmpO {op : CmpOp} {r : R2} (ho : OpR X (compareOp op) r) (hm : behindInMarks op b = false) (h : DE X a δ fun x => DE X b δ fun y => OD X r x y Φ) : DE X (.Compare a [op] [b] pos) δ Φ :=
  .of (pe_cmpR ho pe_E pe_E hm) fun σ H Q en k => two (ta := tE X a) (tb := tE X b) h en fun x y v w H' o kp d1 d2 _ => o H' v w Q d1 d2 fun d u H2 p k2 => k d u H2 p (kp.trans k2)
def isBl (Φ : Bool → Prop) (d : D) : Prop := ∃ b, d = .bl b ∧ Φ b
theorem dt_cmpO {op : CmpOp} {r : R2} (ho : OpR X (compareOp op) r) (hm : behindInMarks op b = false) (h : DE X a δ fun x => DE X b δ fun y => OD X r x y (isBl Φb)) : DT X (.Compare a [op] [b] pos) δ Φb :=
  .of (pt_cmpR ho pe_E pe_E hm) fun σ H Q en k => two (ta := tE X a) (tb := tE X b) h en fun x y v w H' o kp d1 d2 _ => o H' v w _ d1 d2 fun d u H2 p k2 hd => by
    obtain ⟨z, rfl, p⟩ := p
    cases hd
    exact ⟨z, rfl, k z H2 p (kp.trans k2)⟩
/-- an expression that gives True or False, as a test -/
theorem dt_val (he : ∀ whole, isTrue e X.env whole = (do let v ← whole; standAt e.pos; holding [v] (truthy v)) ) (h : DE X e δ (isBl Φb)) : DT X e δ Φb :=
  .of (pt_val pe_E he) fun σ H Q en k => h σ H _ en fun d v H' p kp hd => by
    obtain ⟨z, rfl, p⟩ := p
    cases hd
    exact ⟨z, rfl, k z H' p kp⟩
/-! ### ints -/
theorem od_I0 {g : Int → Int → Int} {i j : Int} (h : Φ (.int (g i j))) : OD X (rI0 fun i j => .int (g i j)) (.int i) (.int j) Φ := fun H v w Q d1 d2 k => by
  cases d1
  cases d2
  exact ⟨i, j, rfl, rfl, k _ _ H h (Kp.refl _ _) (.int _)⟩
theorem od_I {C : Int → Int → Prop} {g : Int → Int → Int} {i j : Int} (hc : C i j) (h : Φ (.int (g i j))) : OD X (rI C fun i j => .int (g i j)) (.int i) (.int j) Φ := fun H v w Q d1 d2 k => by
  cases d1
  cases d2
  exact ⟨i, j, rfl, rfl, hc, k _ _ H h (Kp.refl _ _) (.int _)⟩
theorem od_B0 {g : Int → Int → Bool} {i j : Int} (h : Φ (.bl (g i j))) : OD X (rI0 fun i j => .bl (g i j)) (.int i) (.int j) Φ := fun H v w Q d1 d2 k => by
  cases d1
  cases d2
  exact ⟨i, j, rfl, rfl, k _ _ H h (Kp.refl _ _) (.bl _)⟩
theorem de_neg (h : DE X a δ fun x => ∃ i, x = .int i ∧ Φ (.int (-i))) : DE X (.UnaryOp .USub a pos) δ Φ :=
  .of (pe_un un_neg pe_E) fun σ H Q en k => h σ H _ en fun x v H1 ⟨i, ex, p⟩ k1 d1 => by
    subst ex
    cases d1
    exact ⟨i, rfl, k _ _ H1 p k1 (.int _)⟩
/-- a <= b <= c, of ints; b is asked once -/
theorem de_le3 (h : DE X a δ fun x => DE X b δ fun y => ∃ i j, x = .int i ∧ y = .int j ∧ (i ≤ j → DE X c δ fun z => ∃ k, z = .int k ∧ Φ (.bl (decide (j ≤ k)))) ∧ (¬ i ≤ j → Φ (.bl false)))
    (hm : lastMarks [.LtE, .LtE] [b, c] = false := by with_unfolding_all rfl) : DE X (.Compare a [.LtE, .LtE] [b, c] pos) δ Φ :=
  .of (pe_chain op_le op_le pe_E pe_E pe_E hm) fun σ H Q en k => h σ H _ en fun x v H1 hb k1 d1 => hb σ H1 _ (en.keep k1) fun y w H2 ⟨i, j, ex, ey, h1, h2⟩ k2 d2 => by
    subst ex ey
    cases d1
    cases d2
    refine ⟨i, j, rfl, rfl, _, rfl, ?_⟩
    by_cases hij : i ≤ j
    · rw [if_pos (decide_eq_true hij)]
      refine h1 hij σ H2 _ ((en.keep k1).keep k2) fun z u H3 ⟨m, ez, p⟩ k3 d3 => ?_
      subst ez
      cases d3
      exact ⟨j, m, rfl, rfl, k _ _ H3 p ((k1.trans k2).trans k3) (.bl _)⟩
    · rw [if_neg (by rw [decide_eq_false hij]; exact Bool.false_ne_true)]
      exact k _ _ H2 (h2 hij) (k1.trans k2) (.bl _)
theorem dt_le3 (h : DE X a δ fun x => DE X b δ fun y => ∃ i j, x = .int i ∧ y = .int j ∧ (i ≤ j → DE X c δ fun z => ∃ k, z = .int k ∧ Φb (decide (j ≤ k))) ∧ (¬ i ≤ j → Φb false))
    (hm : lastMarks [.LtE, .LtE] [b, c] = false := by with_unfolding_all rfl) : DT X (.Compare a [.LtE, .LtE] [b, c] pos) δ Φb :=
  .of (pt_chain op_le op_le pe_E pe_E pe_E hm) fun σ H Q en k => h σ H _ en fun x v H1 hb k1 d1 => hb σ H1 _ (en.keep k1) fun y w H2 ⟨i, j, ex, ey, h1, h2⟩ k2 d2 => by
    subst ex ey
    cases d1
    cases d2
    refine ⟨i, j, rfl, rfl, _, rfl, ?_⟩
    by_cases hij : i ≤ j
    · rw [if_pos (decide_eq_true hij)]
      refine h1 hij σ H2 _ ((en.keep k1).keep k2) fun z u H3 ⟨m, ez, p⟩ k3 d3 => ?_
      subst ez
      cases d3
      exact ⟨j, m, rfl, rfl, _, rfl, k _ H3 p ((k1.trans k2).trans k3)⟩
    · rw [if_neg (by rw [decide_eq_false hij]; exact Bool.false_ne_true)]
      exact ⟨_, rfl, k _ H2 (h2 hij) (k1.trans k2)⟩
/-! ### ==, !=, is -/
theorem od_eqI {i j : Int} (h : Φ (.bl (decide (i = j)))) : OD X rEq (.int i) (.int j) Φ := fun H v w Q d1 d2 k => by
  cases d1
  cases d2
  refine ⟨rfl, ?_⟩
  have e : decide (V.int i = V.int j) = decide (i = j) := by
    rw [Bool.eq_iff_iff, decide_eq_true_iff, decide_eq_true_iff]
    exact ⟨fun z => V.int.inj z, fun z => by rw [z]⟩
  rw [e]
  exact k _ _ H h (Kp.refl _ _) (.bl _)
theorem od_neI {i j : Int} (h : Φ (.bl (!decide (i = j)))) : OD X rNe (.int i) (.int j) Φ := fun H v w Q d1 d2 k => by
  cases d1
  cases d2
  refine ⟨rfl, ?_⟩
  have e : decide (V.int i = V.int j) = decide (i = j) := by
    rw [Bool.eq_iff_iff, decide_eq_true_iff, decide_eq_true_iff]
    exact ⟨fun z => V.int.inj z, fun z => by rw [z]⟩
  rw [e]
  exact k _ _ H h (Kp.refl _ _) (.bl _)
theorem od_eqS {i j : Str} (h : Φ (.bl (decide (i = j)))) : OD X rEq (.str i) (.str j) Φ := fun H v w Q d1 d2 k => by
  cases d1
  cases d2
  refine ⟨rfl, ?_⟩
  have e : decide (V.str i = V.str j) = decide (i = j) := by
    rw [Bool.eq_iff_iff, decide_eq_true_iff, decide_eq_true_iff]
    exact ⟨fun z => V.str.inj z, fun z => by rw [z]⟩
  rw [e]
  exact k _ _ H h (Kp.refl _ _) (.bl _)
theorem od_neS {i j : Str} (h : Φ (.bl (!decide (i = j)))) : OD X rNe (.str i) (.str j) Φ := fun H v w Q d1 d2 k => by
  cases d1
  cases d2
  refine ⟨rfl, ?_⟩
  have e : decide (V.str i = V.str j) = decide (i = j) := by
    rw [Bool.eq_iff_iff, decide_eq_true_iff, decide_eq_true_iff]
    exact ⟨fun z => V.str.inj z, fun z => by rw [z]⟩
  rw [e]
  exact k _ _ H h (Kp.refl _ _) (.bl _)
theorem od_isB {i j : Bool} (h : Φ (.bl (decide (i = j)))) : OD X rIsB (.bl i) (.bl j) Φ := fun H v w Q d1 d2 k => by
  cases d1
  cases d2
  exact ⟨i, j, rfl, rfl, k _ _ H h (Kp.refl _ _) (.bl _)⟩
theorem od_notB {i j : Bool} (h : Φ (.bl (!decide (i = j)))) : OD X rNotB (.bl i) (.bl j) Φ := fun H v w Q d1 d2 k => by
  cases d1
  cases d2
  exact ⟨i, j, rfl, rfl, k _ _ H h (Kp.refl _ _) (.bl _)⟩
def isN : D → Bool
  | .non => true
  | _ => false
theorem isN_of {H : Hp} {v : V} {d : D} (h : Dat X.K H v d) : decide (v = .non) = isN d := by
  cases h <;> rfl
/-- a is not None, as a test -/
theorem dt_notN {j : Nat} {p' : Pos} (h : DE X a δ fun x => Φb (!isN x)) : DT X (.Compare a [.IsNot] [.Constant .none j p'] pos) δ Φb :=
  .of (pt_cmp (pc_notN pe_E)) fun σ H Q en k => h σ H _ en fun x v H1 p k1 d1 => ⟨_, rfl, by
    rw [isN_of d1]
    exact k _ H1 p k1⟩
/-! ### data as the library has it -/
mutual
def D.py : D → PyData
  | .non => .none
  | .bl b => .bool b
  | .int i => .int i
  | .str x => .str x
  | .tup l => .tuple (pyL l)
  | .lst l => .list (pyL l)
  | .dic _ => .dict []
  | .obj _ _ => .dict []
  | .tape => .dict []
  | .fnc _ _ => .dict []
  | .exn _ _ _ _ => .dict []
  | .scr _ => .dict []
def pyL : List D → List PyData
  | [] => []
  | d :: l => D.py d :: pyL l
end
mutual
/-- no dict, no instance within -/
def D.pl : D → Bool
  | .non => true
  | .bl _ => true
  | .int _ => true
  | .str _ => true
  | .tup l => plL l
  | .lst l => plL l
  | .dic _ => false
  | .obj _ _ => false
  | .tape => false
  | .fnc _ _ => false
  | .exn _ _ _ _ => false
  | .scr _ => false
def plL : List D → Bool
  | [] => true
  | d :: l => D.pl d && plL l
end
mutual
theorem dp_of {K : PySem.W.Frag} {H : Hp} : ∀ {v : V} {d : D}, Dat K H v d → d.pl = true → Dp K H v d.py
  | _, _, .non, _ => by rw [D.py]; exact .non
  | _, _, .bl b, _ => by rw [D.py]; exact .bl b
  | _, _, .int i, _ => by rw [D.py]; exact .int i
  | _, _, .str x, _ => by rw [D.py]; exact .str x
  | _, _, .tup h l, p => by
    rw [D.py]
    rw [D.pl] at p
    exact .tup h (dpL_of l p)
  | _, _, .lst h l, p => by
    rw [D.py]
    rw [D.pl] at p
    exact .lst (.of h) (dpL_of l p)
  | _, _, .dic h n l, p => by
    rw [D.pl] at p
    cases p
  | _, _, .obj h l, p => by
    rw [D.pl] at p
    cases p
  | _, _, .tape h, p => by
    rw [D.pl] at p
    cases p
  | _, _, .fnc _, p => by
    rw [D.pl] at p
    cases p
  | _, _, .exn _ _, p => by
    rw [D.pl] at p
    cases p
  | _, _, .scr _, p => by
    rw [D.pl] at p
    cases p
theorem dpL_of {K : PySem.W.Frag} {H : Hp} : ∀ {v : List V} {d : List D}, DatL K H v d → plL d = true → DpAll K H v (pyL d)
  | _, _, .nil, _ => by rw [pyL]; exact .nil
  | _, _, .cons h l, p => by
    rw [plL, Bool.and_eq_true] at p
    rw [pyL]
    exact .cons (dp_of h p.1) (dpL_of l p.2)
end
theorem od_eqD {x y : D} (h1 : x.pl = true) (h2 : y.pl = true) (s1 : SeqAt.shaped x.py = true) (s2 : SeqAt.shaped y.py = true) (h : Φ (.bl (PyData.eqv x.py y.py))) : OD X (rEqD X.K) x y Φ := fun H v w Q d1 d2 k =>
  ⟨_, _, dp_of d1 h1, dp_of d2 h2, s1, s2, k _ _ H h (Kp.refl _ _) (.bl _)⟩
theorem od_neD {x y : D} (h1 : x.pl = true) (h2 : y.pl = true) (s1 : SeqAt.shaped x.py = true) (s2 : SeqAt.shaped y.py = true) (h : Φ (.bl (!PyData.eqv x.py y.py))) : OD X (rNeD X.K) x y Φ := fun H v w Q d1 d2 k =>
  ⟨_, _, dp_of d1 h1, dp_of d2 h2, s1, s2, k _ _ H h (Kp.refl _ _) (.bl _)⟩
/-! ### and, or, not -/
theorem de_one {op : BoolOp} (h : DE X a δ Φ) : DE X (.BoolOp op [a] pos) δ Φ := .of (pe_one pe_E) fun σ H Q en k => h σ H Q en k
theorem de_and {rest : List Expr} (h : DE X a δ fun x => ∃ c, x = .bl c ∧ (c = true → DE X (.BoolOp .And (b :: rest) pos) δ Φ) ∧ (c = false → Φ (.bl false))) : DE X (.BoolOp .And (a :: b :: rest) pos) δ Φ :=
  .of (pe_and pe_E pe_E) fun σ H Q en k => h σ H _ en fun x v H1 ⟨c, ex, h1, h2⟩ k1 d1 => by
    subst ex
    cases d1
    refine ⟨c, rfl, ?_⟩
    cases c with
    | true => exact iteT (h1 rfl σ H1 Q (en.keep k1) fun d u H2 p k2 => k d u H2 p (k1.trans k2))
    | false => exact iteF (k _ _ H1 (h2 rfl) k1 (.bl _))
theorem de_or {rest : List Expr} (h : DE X a δ fun x => ∃ c, x = .bl c ∧ (c = true → Φ (.bl true)) ∧ (c = false → DE X (.BoolOp .Or (b :: rest) pos) δ Φ)) : DE X (.BoolOp .Or (a :: b :: rest) pos) δ Φ :=
  .of (pe_or pe_E pe_E) fun σ H Q en k => h σ H _ en fun x v H1 ⟨c, ex, h1, h2⟩ k1 d1 => by
    subst ex
    cases d1
    refine ⟨c, rfl, ?_⟩
    cases c with
    | false => exact iteF (h2 rfl σ H1 Q (en.keep k1) fun d u H2 p k2 => k d u H2 p (k1.trans k2))
    | true => exact iteT (k _ _ H1 (h1 rfl) k1 (.bl _))
theorem de_not (h : DE X a δ fun x => ∃ c, x = .bl c ∧ Φ (.bl (!c))) : DE X (.UnaryOp .Not a pos) δ Φ :=
  .of (pe_not pe_E) fun σ H Q en k => h σ H _ en fun x v H1 ⟨c, ex, p⟩ k1 d1 => by
    subst ex
    cases d1
    exact ⟨c, rfl, k _ _ H1 p k1 (.bl _)⟩
/-- tests, whatever their whole is -/
def tW (X : Cx) (e : Expr) : TT := fun σ H Q => ∀ (whole : Sem Value) (pins : List (Addr × Obj)) (s : Shared), Inv X pins σ H s → wpAny (model X.prog X.w) X.A (isTrue e X.env whole) (TP X pins σ Q) X.xe s
def DW (X : Cx) (e : Expr) (δ : List Sl) (Φ : Bool → Prop) : Prop := ∀ σ H Q, Ek X.K H σ δ → Kb X.K H Φ Q → tW X e σ H Q
theorem pw_W : PW X e (tW X e) := ⟨fun whole pins s _ _ _ I h => h whole pins s I⟩
theorem DW.of {t : TT} (h : PW X e t) (hh : ∀ σ H Q, Ek X.K H σ δ → Kb X.K H Φb Q → t σ H Q) : DW X e δ Φb := fun σ H Q en k whole pins s I => h.run whole pins s σ H Q I (hh σ H Q en k)
theorem dt_W (h : DW X e δ Φb) : DT X e δ Φb := .of pw_W.pt fun σ H Q en k => h σ H Q en k
theorem dw_one_and (h : DT X a δ Φb) : DW X (.BoolOp .And [a] pos) δ Φb := .of (pw_and1 pt_T) fun σ H Q en k => h σ H Q en k
theorem dw_one_or (h : DT X a δ Φb) : DW X (.BoolOp .Or [a] pos) δ Φb := .of (pw_or1 pt_T) fun σ H Q en k => h σ H Q en k
theorem dw_and {rest : List Expr} (h : DT X a δ fun c => (c = true → DW X (.BoolOp .And (b :: rest) pos) δ Φb) ∧ (c = false → Φb false)) : DW X (.BoolOp .And (a :: b :: rest) pos) δ Φb :=
  .of (pw_and pt_T pw_W) fun σ H Q en k => h σ H _ en fun c H1 ⟨h1, h2⟩ k1 => by
    cases c with
    | true => exact iteT (h1 rfl σ H1 Q (en.keep k1) fun d H2 p k2 => k d H2 p (k1.trans k2))
    | false => exact iteF (k _ H1 (h2 rfl) k1)
theorem dw_or {rest : List Expr} (h : DT X a δ fun c => (c = true → Φb true) ∧ (c = false → DW X (.BoolOp .Or (b :: rest) pos) δ Φb)) : DW X (.BoolOp .Or (a :: b :: rest) pos) δ Φb :=
  .of (pw_or pt_T pw_W) fun σ H Q en k => h σ H _ en fun c H1 ⟨h1, h2⟩ k1 => by
    cases c with
    | false => exact iteF (h2 rfl σ H1 Q (en.keep k1) fun d H2 p k2 => k d H2 p (k1.trans k2))
    | true => exact iteT (k _ H1 (h1 rfl) k1)
theorem dt_not (h : DT X a δ fun c => Φb (!c)) : DT X (.UnaryOp .Not a pos) δ Φb := .of (pt_not pt_T) fun σ H Q en k => h σ H _ en fun c H1 p k1 => k _ H1 p k1
theorem de_if (h : DT X c δ fun t => (t = true → DE X a δ Φ) ∧ (t = false → DE X b δ Φ)) : DE X (.IfExp c a b pos) δ Φ :=
  .of (pe_ifExp pt_T pe_E pe_E) fun σ H Q en k => h σ H _ en fun t H1 ⟨h1, h2⟩ k1 => by
    cases t with
    | true => exact iteT (h1 rfl σ H1 Q (en.keep k1) fun d u H2 p k2 => k d u H2 p (k1.trans k2))
    | false => exact iteF (h2 rfl σ H1 Q (en.keep k1) fun d u H2 p k2 => k d u H2 p (k1.trans k2))
/-! ### argument lists, displays -/
theorem da_nil {Φl : List D → Prop} (h : Φl []) : DA X [] δ Φl := .of pa_nil fun σ H Q en k => k [] [] H h (Kp.refl _ _) .nil
theorem da_cons {Φl : List D → Prop} (h : DE X e δ fun d => DA X es δ fun ds => Φl (d :: ds)) (hs : starEach (e :: es) X.env = (false, eval e X.env) :: starEach es X.env := by rfl) : DA X (e :: es) δ Φl :=
  .of (pa_cons pe_E pa_A hs) fun σ H Q en k => h σ H _ en fun d v H1 h1 k1 d1 => h1 σ H1 _ (en.keep k1) fun ds vs H2 p k2 d2 => k (d :: ds) (v :: vs) H2 p (k1.trans k2) (.cons (d1.keep k2) d2)
theorem de_tup {j : Nat} (h : DA X es δ fun ds => ds.length ≤ sizeLine ∧ Φ (.tup ds)) : DE X (.Tuple es j pos) δ Φ :=
  .of (pe_tup pa_A) fun σ H Q en k => h σ H _ en fun ds vs H1 ⟨hl, p⟩ k1 d1 => ⟨by rw [d1.length]; exact hl, fun p' hp => k _ _ _ p (k1.trans (Kp.new hp)) (.tup (SqT.of upd_same) (d1.keep (Kp.new hp)))⟩
theorem de_lst (h : DA X es δ fun ds => ds.length ≤ sizeLine ∧ Φ (.lst ds)) : DE X (.List es pos) δ Φ :=
  .of (pe_lst pa_A) fun σ H Q en k => h σ H _ en fun ds vs H1 ⟨hl, p⟩ k1 d1 => ⟨by rw [d1.length]; exact hl, fun p' hp => k _ _ _ p (k1.trans (Kp.new hp)) (.lst upd_same (d1.keep (Kp.new hp)))⟩
/-! ### subscripts -/
theorem atI_dat {K : PySem.W.Frag} {H : Hp} {xs : List V} {ds : List D} (h : DatL K H xs ds) {i : Int} {z : D} (e : atI ds i = some z) : ∃ v, atI xs i = some v ∧ Dat K H v z := by
  unfold atI at e ⊢
  rw [h.length]
  cases q : ixN ds.length i with
  | none =>
    rw [q] at e
    cases e
  | some j =>
    rw [q] at e
    exact h.get e
theorem od_ix {l : List D} {i : Int} {z : D} {x : D} (hx : x = .tup l ∨ x = .lst l) (e : atI l i = some z) (h : Φ z) : OD X (rIx X.K) x (.int i) Φ := fun H v w Q d1 d2 k => by
  cases d2
  rcases hx with hx | hx <;> subst hx
  · cases d1 with
    | tup hs hl =>
      obtain ⟨u, e1, e2⟩ := atI_dat hl e
      exact .inr (.inl ⟨_, _, i, u, rfl, rfl, hs, e1, k _ _ H h (Kp.refl _ _) e2⟩)
  · cases d1 with
    | lst hs hl =>
      obtain ⟨u, e1, e2⟩ := atI_dat hl e
      exact .inl ⟨_, _, i, u, rfl, rfl, .of hs, e1, k _ _ H h (Kp.refl _ _) e2⟩
theorem de_ix (h : DE X a δ fun x => DE X b δ fun y => ∃ l i z, (x = .tup l ∨ x = .lst l) ∧ y = .int i ∧ atI l i = some z ∧ Φ z) (hs : PlainIx b := by exact fun _ _ => rfl) : DE X (.Subscript a b pos) δ Φ :=
  .of (pe_ix ix_seq pe_E pe_E hs) fun σ H Q en k => two (ta := tE X a) (tb := tE X b) h en fun x y v w H' ⟨l, i, z, hx, hy, ha, p⟩ kp d1 d2 _ => by
    subst hy
    exact od_ix hx ha p H' v w Q d1 d2 fun d u H2 p k2 => k d u H2 p (kp.trans k2)
theorem datK_look {K : PySem.W.Frag} {H : Hp} : ∀ {kvs : List (Key × V)} {ds : List (Str × D)} {s : Str} {z : D}, DatK K H kvs ds → ds.lookup s = some z → ∃ v, valV kvs (Sum.inr s) = some v ∧ Dat K H v z
  | _, _, _, _, .nil, e => by cases e
  | _, _, s, z, .cons (k := k) (v := v) (vs := vs) (d := d) (ds := ds) h l, e => by
    by_cases hk : s = k
    · subst hk
      rw [List.lookup_cons_self] at e
      cases e
      exact ⟨v, valV_pos rfl, h⟩
    · rw [List.lookup_cons, beq_eq_false_iff_ne.mpr hk] at e
      obtain ⟨u, e1, e2⟩ := datK_look l e
      exact ⟨u, by rw [valV_neg (fun z => hk (Sum.inr.inj z).symm)]; exact e1, e2⟩
theorem datK_no {K : PySem.W.Frag} {H : Hp} : ∀ {kvs : List (Key × V)} {ds : List (Str × D)} {s : Str}, DatK K H kvs ds → ds.lookup s = none → valV kvs (Sum.inr s) = none
  | _, _, _, .nil, _ => valV_nil
  | _, _, s, .cons (k := k) (v := v) (vs := vs) (d := d) (ds := ds) h l, e => by
    by_cases hk : s = k
    · subst hk
      rw [List.lookup_cons_self] at e
      cases e
    · rw [List.lookup_cons, beq_eq_false_iff_ne.mpr hk] at e
      rw [valV_neg (fun z => hk (Sum.inr.inj z).symm)]
      exact datK_no l e
theorem de_dget (hu : X.A.units + 1 < cLine) (h : DE X a δ fun x => DE X b δ fun y => ∃ ds s z, x = .dic ds ∧ y = .str s ∧ ds.lookup s = some z ∧ Φ z) (hs : NoSl b := by exact fun _ _ => rfl) : DE X (.Subscript a b pos) δ Φ :=
  .of (pe_dget hu pe_E pe_E hs) fun σ H Q en k => two (ta := tE X a) (tb := tE X b) h en fun x y v w H' ⟨ds, s, z, hx, hy, ha, p⟩ kp d1 d2 _ => by
    subst hx hy
    cases d2
    cases d1 with
    | dic hH hn hl =>
      obtain ⟨u, e1, e2⟩ := datK_look hl ha
      refine ⟨_, u, rfl, ?_, k _ _ H' p kp e2⟩
      rw [← e1]
      exact DGet.k (k := Sum.inr s) hH
theorem pc_in_tr (hu : X.A.units + 1 < cLine) (h : DE X a δ fun x => DE X b δ fun y => ∃ ds s, x = .str s ∧ y = .dic ds ∧ Φ (.bl (ds.lookup s).isSome)) : ∀ σ H Q, Ek X.K H σ δ → Kd X.K H Φ Q → tDIn (tE X a) (tE X b) σ H Q := fun σ H Q en k =>
  two (ta := tE X a) (tb := tE X b) h en fun x y v w H' ⟨ds, s, hx, hy, p⟩ kp d1 d2 _ => by
    subst hx hy
    cases d1
    cases d2 with
    | @dic a0 kvs _ hH hn hl =>
      refine ⟨_, _, rfl, DGet.k (k := Sum.inr s) hH, ?_⟩
      have e : (valV kvs (Sum.inr s : Key)).isSome = (ds.lookup s).isSome := by
        cases q : ds.lookup s with
        | none => rw [datK_no hl q] <;> rfl
        | some z =>
          obtain ⟨u, e1, _⟩ := datK_look hl q
          rw [e1] <;> rfl
      rw [e]
      exact k _ _ H' p kp (.bl _)
theorem dt_dic (hu : X.A.units + 1 < cLine) (h : DE X a δ fun x => DE X b δ fun y => ∃ ds s, x = .str s ∧ y = .dic ds ∧ Φb (ds.lookup s).isSome) (h1 : behindInMarks .In b = false := by rfl) : DT X (.Compare a [.In] [b] pos) δ Φb :=
  .of (pt_cmp (pc_din hu pe_E pe_E) h1) fun σ H Q en k => pc_in_tr (Φ := isBl Φb) hu (h.imp fun x hb => hb.imp fun y ⟨ds, s, h1, h2, h3⟩ => ⟨ds, s, h1, h2, _, rfl, h3⟩) σ H _ en fun d v H' ⟨z, ez, p⟩ kp hd => by
    subst ez
    cases hd
    exact ⟨z, rfl, k z H' p kp⟩
/-! ### slices -/
def cutL {α : Type} (xs : List α) (lo hi : Option Int) : List α := (xs.drop (HT.sIx xs.length 0 lo)).take (HT.sIx xs.length xs.length hi - HT.sIx xs.length 0 lo)
theorem cut_dat {K : PySem.W.Frag} {H : Hp} {xs : List V} {ds : List D} (h : DatL K H xs ds) (lo hi : Option Int) : DatL K H (cutV xs lo hi) (cutL ds lo hi) := by
  unfold cutV cutL
  rw [h.length]
  exact (h.drop _).take _
theorem cutL_whole {α : Type} {xs : List α} {lo hi : Option Int} (h : HT.sIx xs.length 0 lo = 0 ∧ HT.sIx xs.length xs.length hi = xs.length) : cutL xs lo hi = xs := by
  unfold cutL
  rw [h.1, h.2, List.drop_zero, Nat.sub_zero, List.take_length]
def tO (X : Cx) (e : Option Expr) : TO := fun σ H Q => ∀ (pins : List (Addr × Obj)) (s : Shared), Inv X pins σ H s → wpAny (model X.prog X.w) X.A (evalPart e X.env) (fun u s' => ∃ o H', Inv X pins σ H' s' ∧ IsPart u o ∧ Q o H') X.xe s
def DO (X : Cx) (e : Option Expr) (δ : List Sl) (Φ : Option Int → Prop) : Prop := ∀ σ H (Q : Option Int → Hp → Prop), Ek X.K H σ δ → (∀ o H', Φ o → Kp X.K H H' → Q o H') → tO X e σ H Q
theorem po_O {e : Option Expr} : PO X e (tO X e) := ⟨fun pins s _ _ _ I h => h pins s I⟩
theorem do_none {Φo : Option Int → Prop} (h : Φo none) : DO X none δ Φo := fun σ H Q en k pins s I => po_none.run pins s σ H Q I (k none H h (Kp.refl _ _))
theorem do_some {Φo : Option Int → Prop} (h : DE X e δ fun d => ∃ i, d = .int i ∧ Φo (some i)) : DO X (some e) δ Φo := fun σ H Q en k pins s I =>
  (po_some pe_E).run pins s σ H Q I (h σ H _ en fun d v H1 ⟨i, ed, p⟩ k1 d1 => by
    subst ed
    cases d1
    exact ⟨i, rfl, k _ H1 p k1⟩)
theorem de_sl {lo hi : Option Expr} {p2 : Pos} (h : DE X a δ fun x => DO X lo δ fun l => DO X hi δ fun u => (∃ ds, x = .tup ds ∧ Φ (.tup (cutL ds l u))) ∨ ∃ ds, x = .lst ds ∧ Φ (.lst (cutL ds l u))) :
    DE X (.Subscript a (.Slice lo hi none p2) pos) δ Φ :=
  .of (pe_slice (sl_tupA.or sl_list) pe_E po_O po_O) fun σ H Q en k => h σ H _ en fun x v H1 h1 k1 d1 => h1 σ H1 _ (en.keep k1) fun l H2 h2 k2 => h2 σ H2 _ ((en.keep k1).keep k2) fun u H3 h3 k3 => by
    have d3 := (d1.keep k2).keep k3
    have kk := (k1.trans k2).trans k3
    rcases h3 with ⟨ds, ex, p⟩ | ⟨ds, ex, p⟩
    · subst ex
      cases d3 with
      | tup hs hl =>
        refine .inl ⟨_, _, rfl, hs, fun hw => ?_, fun _ q hq => k _ _ _ p (kk.trans (Kp.new hq)) (.tup (SqT.of upd_same) ((cut_dat hl l u).keep (Kp.new hq)))⟩
        rw [hl.length] at hw
        rw [cutL_whole hw] at p
        exact k _ _ H3 p kk (.tup hs hl)
    · subst ex
      cases d3 with
      | lst hs hl => exact .inr ⟨_, _, rfl, .of hs, fun q hq => k _ _ _ p (kk.trans (Kp.new hq)) (.lst upd_same ((cut_dat hl l u).keep (Kp.new hq)))⟩
/-! ### +, * of sequences -/
theorem od_catT {l m : List D} (hz : l.length + m.length ≤ sizeLine) (h : Φ (.tup (l ++ m))) : OD X (rCatA X.K) (.tup l) (.tup m) Φ := fun H v w Q d1 d2 k => by
  cases d1 with
  | tup h1 l1 =>
    cases d2 with
    | tup h2 l2 =>
      refine ⟨_, _, _, _, rfl, rfl, h1, h2, by rw [l1.length, l2.length]; exact hz, fun e => ?_, fun _ e => ?_, fun _ _ p hp => k _ _ _ h (Kp.new hp) (.tup (SqT.of upd_same) ((l1.append l2).keep (Kp.new hp)))⟩
      · subst e
        cases l1
        exact k _ _ H h (Kp.refl _ _) (.tup h2 l2)
      · subst e
        cases l2
        rw [List.append_nil] at h
        exact k _ _ H h (Kp.refl _ _) (.tup h1 l1)
theorem od_catL {l m : List D} (hz : l.length + m.length ≤ sizeLine) (h : Φ (.lst (l ++ m))) : OD X rCat (.lst l) (.lst m) Φ := fun H v w Q d1 d2 k => by
  cases d1 with
  | lst h1 l1 =>
    cases d2 with
    | lst h2 l2 => exact ⟨_, _, _, _, rfl, rfl, h1, h2, by rw [l1.length, l2.length]; exact hz, fun p hp => k _ _ _ h (Kp.new hp) (.lst upd_same ((l1.append l2).keep (Kp.new hp)))⟩
theorem rep_dat {K : PySem.W.Frag} {H : Hp} {xs : List V} {l : List D} (h : DatL K H xs l) : ∀ m : Nat, DatL K H (List.replicate m xs).flatten (List.replicate m l).flatten
  | 0 => .nil
  | m + 1 => by
    rw [List.replicate_succ, List.replicate_succ, List.flatten_cons, List.flatten_cons]
    exact h.append (rep_dat h m)
theorem od_repT {l : List D} {n : Int} (h0 : l ≠ []) (h1 : 2 ≤ n ∧ n ≤ 1000) (h2 : l.length ≤ 1000) (h : Φ (.tup (List.replicate n.toNat l).flatten)) : OD X (rRepT X.K) (.tup l) (.int n) Φ := fun H v w Q d1 d2 k => by
  cases d2
  cases d1 with
  | tup hs hl =>
    refine ⟨_, n, _, rfl, rfl, hs, fun e => ?_, h1.1, h1.2, by rw [hl.length]; exact h2, fun p hp => k _ _ _ h (Kp.new hp) (.tup (SqT.of upd_same) (rep_dat (hl.keep (Kp.new hp)) _))⟩
    subst e
    cases hl
    exact h0 rfl
/-! ### built-ins by name -/
/-- what a built-in gives on data -/
def CD (X : Cx) (r : List V → Hp → VK → Prop) (ds : List D) (Φ : D → Prop) : Prop := ∀ H vs Q, DatL X.K H vs ds → Kd X.K H Φ Q → r vs H Q
theorem de_callB {id : String} {r : List V → Hp → VK → Prop} (hc : CallR X (.builtin id) r) (hg : Gl X x) (hm : X.mg x = none) (hv : bootBuiltins x = some (.builtin id)) (h : DA X (e :: es) δ fun ds => CD X r ds Φ) (hn : x ≠ "__name__" := by decide) (hdb : (x == ("__debug__" : Str)) = false := by decide)
    (he : starEach (e :: es) X.env = (false, eval e X.env) :: starEach es X.env := by rfl) (hpl : (backTo pos (starEach es X.env)).any (·.1) = false := by rfl) : DE X (.Call (.Name x p) (e :: es) [] pos) δ Φ :=
  .of (pe_callB hc hg hm hv pa_A hn hdb he hpl) fun σ H Q en k => h σ H _ en fun ds vs H1 o k1 d1 => o H1 vs Q d1 fun d u H2 p k2 => k d u H2 p (k1.trans k2)
theorem de_callTy {T : String} {r : List V → Hp → VK → Prop} (hc : CallR X (.type T) r) (hg : Gl X x) (hm : X.mg x = none) (hv : bootBuiltins x = some (.type T)) (h : DA X (e :: es) δ fun ds => CD X r ds Φ) (hn : x ≠ "__name__" := by decide) (hdb : (x == ("__debug__" : Str)) = false := by decide)
    (he : starEach (e :: es) X.env = (false, eval e X.env) :: starEach es X.env := by rfl) (hpl : (backTo pos (starEach es X.env)).any (·.1) = false := by rfl) : DE X (.Call (.Name x p) (e :: es) [] pos) δ Φ :=
  .of (pe_callTy hc hg hm hv pa_A hn hdb he hpl) fun σ H Q en k => h σ H _ en fun ds vs H1 o k1 d1 => o H1 vs Q d1 fun d u H2 p k2 => k d u H2 p (k1.trans k2)
def seqD : D → Option (List D)
  | .tup l => some l
  | .lst l => some l
  | .scr l => some (l.map .int)
  | _ => none
theorem seq_of {K : PySem.W.Frag} {H : Hp} {v : V} {d : D} {l : List D} (h : Dat K H v d) (e : seqD d = some l) : ∃ a xs, v = .ref a ∧ (SqL K H a xs ∨ SqT K H a xs) ∧ DatL K H xs l := by
  cases h with
  | tup h1 h2 =>
    cases e
    exact ⟨_, _, rfl, .inr h1, h2⟩
  | lst h1 h2 =>
    cases e
    exact ⟨_, _, rfl, .inl (.of h1), h2⟩
  | scr h1 =>
    cases e
    exact ⟨_, _, rfl, .inl h1, datL_ints _⟩
  | _ => cases e
abbrev rLenQ (K : PySem.W.Frag) : List V → Hp → VK → Prop := fun xs H Q => ∃ p ys, xs = [.ref p] ∧ (SqL K H p ys ∨ SqT K H p ys) ∧ Q (.int ys.length) H
theorem cd_len {d : D} {l : List D} (e : seqD d = some l) (h : Φ (.int l.length)) : CD X (rLenQ X.K) [d] Φ := fun H vs Q dl k => by
  cases dl with
  | cons h1 h2 =>
    cases h2
    obtain ⟨a, xs, rfl, hs, hl⟩ := seq_of h1 e
    refine ⟨a, xs, rfl, hs, ?_⟩
    rw [hl.length]
    exact k _ _ H h (Kp.refl _ _) (.int _)
abbrev rIntQ : List V → Hp → VK → Prop := fun xs H Q => (∃ i, xs = [.int i] ∧ Q (.int i) H) ∨ ∃ k, xs = [.bl k] ∧ Q (.int (if k then 1 else 0)) H
theorem cd_int {i : Int} (h : Φ (.int i)) : CD X rIntQ [.int i] Φ := fun H vs Q dl k => by
  cases dl with
  | cons h1 h2 =>
    cases h2
    cases h1
    exact .inl ⟨i, rfl, k _ _ H h (Kp.refl _ _) (.int _)⟩
theorem cd_intB {b : Bool} (h : Φ (.int (if b then 1 else 0))) : CD X rIntQ [.bl b] Φ := fun H vs Q dl k => by
  cases dl with
  | cons h1 h2 =>
    cases h2
    cases h1
    exact .inr ⟨b, rfl, k _ _ H h (Kp.refl _ _) (.int _)⟩
abbrev rListQ (K : PySem.W.Frag) : List V → Hp → VK → Prop := fun xs H Q => ∃ p ys, xs = [.ref p] ∧ (SqL K H p ys ∨ SqT K H p ys) ∧ ∀ l, H l = none → Q (.ref l) (upd H l (.lst ys))
theorem cd_list {d : D} {l : List D} (e : seqD d = some l) (h : Φ (.lst l)) : CD X (rListQ X.K) [d] Φ := fun H vs Q dl k => by
  cases dl with
  | cons h1 h2 =>
    cases h2
    obtain ⟨a, xs, rfl, hs, hl⟩ := seq_of h1 e
    exact ⟨a, xs, rfl, hs, fun p hp => k _ _ _ h (Kp.new hp) (.lst upd_same (hl.keep (Kp.new hp)))⟩
abbrev rTupleQ (K : PySem.W.Frag) : List V → Hp → VK → Prop := fun xs H Q => ∃ p ys, xs = [.ref p] ∧ ((SqL K H p ys ∧ ∀ l, H l = none → Q (.ref l) (upd H l (.tup ys))) ∨ (SqT K H p ys ∧ Q (.ref p) H))
theorem cd_tuple {l : List D} (h : Φ (.tup l)) : CD X (rTupleQ X.K) [.lst l] Φ := fun H vs Q dl k => by
  cases dl with
  | cons h1 h2 =>
    cases h2
    cases h1 with
    | lst hs hl => exact ⟨_, _, rfl, .inl ⟨.of hs, fun p hp => k _ _ _ h (Kp.new hp) (.tup (SqT.of upd_same) (hl.keep (Kp.new hp)))⟩⟩
theorem cd_sum {ns : List Int} (h : Φ (.int ns.sum)) : CD X (rSum X.K) [.lst (ns.map .int)] Φ := fun H vs Q dl k => by
  cases dl with
  | cons h1 h2 =>
    cases h2
    cases h1 with
    | lst hs hl =>
      have e := hl.ints
      subst e
      exact ⟨_, ns, rfl, .of hs, k _ _ H h (Kp.refl _ _) (.int _)⟩
/-! ### isinstance of a built-in class -/
def tyD : D → String
  | .non => "NoneType"
  | .bl _ => "bool"
  | .int _ => "int"
  | .str _ => "str"
  | .tup _ => "tuple"
  | .lst _ => "list"
  | _ => "dict"
def noObj : D → Bool
  | .obj _ _ => false
  | .fnc _ _ => false
  | .exn _ _ _ _ => false
  | .scr _ => false
  | _ => true
theorem tyX_of {K : PySem.W.Frag} {H : Hp} {v : V} {d : D} (h : Dat K H v d) (n : noObj d = true) : TyX K H v (.type (tyD d)) := by
  cases h with
  | non => exact .base .non
  | bl b => exact .base (.bl b)
  | int i => exact .base (.int i)
  | str x => exact .base (.str x)
  | tup h1 h2 =>
    rcases h1 with (h | ⟨o, h⟩) | ⟨o, _, _, e, c, _⟩
    · exact .base (.tup h)
    · exact .fTuple h
    · exact .kTuple e c
  | lst h1 h2 => exact .base (.lst h1)
  | dic h1 _ _ => exact .base (.dK h1)
  | obj h1 h2 => cases n
  | fnc f => cases n
  | exn _ _ => cases n
  | scr _ => cases n
  | tape h1 =>
    obtain ⟨cs, at_, g, lf, sd, tn, h, _⟩ := h1
    exact .base (.dK h)
theorem de_isT {T : String} {p2 : Pos} {y : Str} {r : D → Bool} (hg : Gl X x) (hm : X.mg x = none) (hv : bootBuiltins x = some (.builtin "isinstance")) (hg2 : Gl X y) (hm2 : X.mg y = none) (hv2 : bootBuiltins y = some (.type T)) (hr : ∀ d, noObj d = true → kitB (tyD d) T = some (r d))
    (h : DE X e δ fun d => noObj d = true ∧ Φ (.bl (r d))) (hn : x ≠ "__name__" := by decide) (hdb : (x == ("__debug__" : Str)) = false := by decide) (hn2 : y ≠ "__name__" := by decide) (hdb2 : (y == ("__debug__" : Str)) = false := by decide)
    (he : starEach [e, .Name y p2] X.env = (false, eval e X.env) :: starEach [.Name y p2] X.env := by rfl) (hpl : (backTo pos (starEach [.Name y p2] X.env)).any (·.1) = false := by rfl) (he2 : starEach [.Name y p2] X.env = (false, eval (.Name y p2) X.env) :: starEach [] X.env := by rfl) :
    DE X (.Call (.Name x p) [e, .Name y p2] [] pos) δ Φ :=
  .of (pe_callB call_isi hg hm hv (pa_cons pe_E (pa_cons (pe_bltn (v := .ty T) hg2 hm2 hv2 rfl hn2 hdb2) pa_nil he2) he) hn hdb he hpl) fun σ H Q en k => h σ H _ en fun d v H1 ⟨n, p⟩ k1 d1 =>
    ⟨v, .ty T, .type (tyD d), .type T, r d, rfl, .ty T, tyX_of d1 n, kit_ty (hr d n), k _ _ H1 p k1 (.bl _)⟩
def isIntB : D → Bool
  | .int _ => true
  | .bl _ => true
  | _ => false
def isBoolB : D → Bool
  | .bl _ => true
  | _ => false
def isTupB : D → Bool
  | .tup _ => true
  | _ => false
theorem kit_int : ∀ d, noObj d = true → kitB (tyD d) "int" = some (isIntB d)
  | .non, _ => (by decide +kernel : kitB "NoneType" "int" = some false)
  | .bl _, _ => (by decide +kernel : kitB "bool" "int" = some true)
  | .int _, _ => (by decide +kernel : kitB "int" "int" = some true)
  | .str _, _ => (by decide +kernel : kitB "str" "int" = some false)
  | .tup _, _ => (by decide +kernel : kitB "tuple" "int" = some false)
  | .lst _, _ => (by decide +kernel : kitB "list" "int" = some false)
  | .dic _, _ => (by decide +kernel : kitB "dict" "int" = some false)
  | .tape, _ => (by decide +kernel : kitB "dict" "int" = some false)
  | .obj _ _, n => by cases n
  | .fnc _ _, n => by cases n
  | .exn _ _ _ _, n => by cases n
  | .scr _, n => by cases n
theorem kit_bool : ∀ d, noObj d = true → kitB (tyD d) "bool" = some (isBoolB d)
  | .non, _ => (by decide +kernel : kitB "NoneType" "bool" = some false)
  | .bl _, _ => (by decide +kernel : kitB "bool" "bool" = some true)
  | .int _, _ => (by decide +kernel : kitB "int" "bool" = some false)
  | .str _, _ => (by decide +kernel : kitB "str" "bool" = some false)
  | .tup _, _ => (by decide +kernel : kitB "tuple" "bool" = some false)
  | .lst _, _ => (by decide +kernel : kitB "list" "bool" = some false)
  | .dic _, _ => (by decide +kernel : kitB "dict" "bool" = some false)
  | .tape, _ => (by decide +kernel : kitB "dict" "bool" = some false)
  | .obj _ _, n => by cases n
  | .fnc _ _, n => by cases n
  | .exn _ _ _ _, n => by cases n
  | .scr _, n => by cases n
theorem kit_tup : ∀ d, noObj d = true → kitB (tyD d) "tuple" = some (isTupB d)
  | .non, _ => (by decide +kernel : kitB "NoneType" "tuple" = some false)
  | .bl _, _ => (by decide +kernel : kitB "bool" "tuple" = some false)
  | .int _, _ => (by decide +kernel : kitB "int" "tuple" = some false)
  | .str _, _ => (by decide +kernel : kitB "str" "tuple" = some false)
  | .tup _, _ => (by decide +kernel : kitB "tuple" "tuple" = some true)
  | .lst _, _ => (by decide +kernel : kitB "list" "tuple" = some false)
  | .dic _, _ => (by decide +kernel : kitB "dict" "tuple" = some false)
  | .tape, _ => (by decide +kernel : kitB "dict" "tuple" = some false)
  | .obj _ _, n => by cases n
  | .fnc _ _, n => by cases n
  | .exn _ _ _ _, n => by cases n
  | .scr _, n => by cases n
end
end Fr
end
-- FrStmt
section
set_option Elab.async false
set_option linter.all false
set_option maxRecDepth 100000
/-! Statements, calls, defs over data. -/
namespace Fr
open PySem PySem.Spec PyProof.Rows L2
/-! ### statements -/
structure DEnds where
  nx : List Sl → Prop
  rt : D → Prop
  bk : List Sl → Prop := fun _ => False
  ct : List Sl → Prop := fun _ => False
  ex : Nat → List D → Prop := fun _ _ => False
/-- the state between statements: H0 the base -/
structure SOk (K : PySem.W.Frag) (H0 H : Hp) (σ : L2.St) (δ : List Sl) : Prop where
  kp : Kp K H0 H
  en : Ek K H σ δ
  bs : ∀ (i : Nat) d, δ[i]? = some (.b d) → ∃ v, σ[i]? = some (some v) ∧ Dat K H0 v d
  nw : ∀ (i : Nat) l, δ[i]? = some (.ow l) → ∃ a, σ[i]? = some (some (.ref a)) ∧ H0 a = none
  ni : ∀ (i : Nat) a c l, δ[i]? = some (.ini a c l) → H0 a = none
/-- an error's own dict, with its data -/
abbrev Kx (K : PySem.W.Frag) (H : Hp) (Ψ : Nat → List D → Prop) (E : XK) : Prop := ∀ c ds dx fs H', Ψ c ds → Kp K H H' → H' dx = some (.xd fs) → DatF K H' fs (xN c) ds → E (.ref (xA K c)) (some dx) H'
structure EOk (K : PySem.W.Frag) (H0 : Hp) (Δ : DEnds) (D : Ends) (W : WX) : Prop where
  nx : ∀ δ σ H, Δ.nx δ → SOk K H0 H σ δ → D.nx σ H
  rt : ∀ d v H, Δ.rt d → Kp K H0 H → Dat K H v d → D.rt v H
  bk : ∀ δ σ H, Δ.bk δ → SOk K H0 H σ δ → D.bk σ H
  ct : ∀ δ σ H, Δ.ct δ → SOk K H0 H σ δ → D.ct σ H
  ex : ∀ c ds dx fs σ H, Δ.ex c ds → Kp K H0 H → H dx = some (.xd fs) → DatF K H fs (xN c) ds → W (.ref (xA K c)) (some dx) σ H
def DS (X : Cx) (st : Stmt) (δ : List Sl) (Δ : DEnds) : Prop := ∀ H0 σ H D W, Takes X W → SOk X.K H0 H σ δ → EOk X.K H0 Δ D W → tS X st D σ H
def DSs (X : Cx) (st : List Stmt) (δ : List Sl) (Δ : DEnds) : Prop := ∀ H0 σ H D W, Takes X W → SOk X.K H0 H σ δ → EOk X.K H0 Δ D W → tSs X st D σ H
section
variable {K : PySem.W.Frag} {H0 H H' : Hp} {σ : L2.St} {δ : List Sl}
theorem SOk.keep (k : Kp K H H') (s : SOk K H0 H σ δ) : SOk K H0 H' σ δ := ⟨s.kp.trans k, s.en.keep k, s.bs, s.nw, s.ni⟩
theorem get_set {α : Type} {l : List α} {i j : Nat} {x y : α} (h : (l.set i x)[j]? = some y) : (i = j ∧ y = x) ∨ (i ≠ j ∧ l[j]? = some y) := by
  rw [List.getElem?_set] at h
  by_cases e : i = j
  · rw [if_pos e] at h
    split at h
    · cases h
      exact .inl ⟨e, rfl⟩
    · cases h
  · rw [if_neg e] at h
    exact .inr ⟨e, h⟩
theorem set_get {α : Type} {l : List α} {i j : Nat} {x : α} (e : i ≠ j) : (l.set i x)[j]? = l[j]? := by
  rw [List.getElem?_set, if_neg e]
/-- a name is stored -/
theorem SOk.set (s : SOk K H0 H σ δ) (i : Nat) {v : V} {d : D} (hd : Dat K H v d) : SOk K H0 H (σ.set i (some v)) (δ.set i (.v d)) := by
  refine ⟨s.kp, s.en.set i hd, fun j d' e => ?_, fun j l e => ?_, fun j a' c l e => ?_⟩
  · rcases get_set e with ⟨_, z⟩ | ⟨z, e⟩
    · cases z
    · rw [set_get z]
      exact s.bs j d' e
  · rcases get_set e with ⟨_, z⟩ | ⟨z, e⟩
    · cases z
    · rw [set_get z]
      exact s.nw j l e
  · rcases get_set e with ⟨_, z⟩ | ⟨z, e⟩
    · cases z
    · exact s.ni j a' c l e
/-- .. a new list of the def's own -/
theorem SOk.setO (s : SOk K H0 H σ δ) (i : Nat) {a : Addr} {xs : List V} {l : List D} (ha : H a = some (OwnL a xs)) (hd : DatL K H xs l) (hn : H0 a = none) : SOk K H0 H (σ.set i (some (.ref a))) (δ.set i (.ow l)) := by
  refine ⟨s.kp, s.en.put i ⟨a, xs, rfl, ha, hd⟩, fun j d' e => ?_, fun j l e => ?_, fun j a' c l e => ?_⟩
  · rcases get_set e with ⟨_, z⟩ | ⟨z, e⟩
    · cases z
    · rw [set_get z]
      exact s.bs j d' e
  · rcases get_set e with ⟨z1, z⟩ | ⟨z, e⟩
    · refine ⟨a, ?_, hn⟩
      subst z1
      have hl : i < σ.length := by
        have q := (List.getElem?_eq_some_iff.mp e).1
        rw [List.length_set] at q
        rw [s.en.2.1]
        exact q
      rw [List.getElem?_set, if_pos rfl, if_pos hl]
    · rw [set_get z]
      exact s.nw j l e
  · rcases get_set e with ⟨_, z⟩ | ⟨z, e⟩
    · cases z
    · exact s.ni j a' c l e
/-- .. forgotten -/
theorem SOk.no (s : SOk K H0 H σ δ) (i : Nat) (o : Option V) : SOk K H0 H (σ.set i o) (δ.set i .no) := by
  refine ⟨s.kp, s.en.put i trivial, fun j d' e => ?_, fun j l e => ?_, fun j a' c l e => ?_⟩
  · rcases get_set e with ⟨_, z⟩ | ⟨z, e⟩
    · cases z
    · rw [set_get z]
      exact s.bs j d' e
  · rcases get_set e with ⟨_, z⟩ | ⟨z, e⟩
    · cases z
    · rw [set_get z]
      exact s.nw j l e
  · rcases get_set e with ⟨_, z⟩ | ⟨z, e⟩
    · cases z
    · exact s.ni j a' c l e
theorem EOk.base {Δ : DEnds} {D : Ends} {W : WX} (k : Kp K H0 H) (e : EOk K H0 Δ D W) (hn : ∀ δ, Δ.nx δ → ∀ (i : Nat) s, δ[i]? = some s → ∃ d, s = .v d ∨ s = .no) (hb : ∀ δ, Δ.bk δ → ∀ (i : Nat) s, δ[i]? = some s → ∃ d, s = .v d ∨ s = .no) (hc : ∀ δ, Δ.ct δ → ∀ (i : Nat) s, δ[i]? = some s → ∃ d, s = .v d ∨ s = .no) :
    EOk K H Δ D W := by
  have f : ∀ δ σ H', (∀ (i : Nat) s, δ[i]? = some s → ∃ d, s = Sl.v d ∨ s = .no) → SOk K H H' σ δ → SOk K H0 H' σ δ := fun δ σ H' h s =>
    ⟨k.trans s.kp, s.en, fun i d q => (let ⟨_, z⟩ := h i _ q; by rcases z with z | z <;> cases z), fun i d q => (let ⟨_, z⟩ := h i _ q; by rcases z with z | z <;> cases z), fun i a c d q => (let ⟨_, z⟩ := h i _ q; by rcases z with z | z <;> cases z)⟩
  exact ⟨fun δ σ H' p s => e.nx δ σ H' p (f δ σ H' (hn δ p) s), fun d v H' p kp => e.rt d v H' p (k.trans kp), fun δ σ H' p s => e.bk δ σ H' p (f δ σ H' (hb δ p) s), fun δ σ H' p s => e.ct δ σ H' p (f δ σ H' (hc δ p) s),
    fun c ds dx fs σ H' p kp => e.ex c ds dx fs σ H' p (k.trans kp)⟩
end
section
variable {X : Cx} {δ : List Sl} {Δ : DEnds} {e c : Expr} {st : Stmt} {sts body orelse : List Stmt} {pos : Pos} {x : Str}
theorem DS.of {t : TS} (h : PS X st t) (hh : ∀ H0 σ H D W, Takes X W → SOk X.K H0 H σ δ → EOk X.K H0 Δ D W → t D σ H) : DS X st δ Δ := fun H0 σ H D W tk s k pins sh I => h.run pins sh σ H D I (hh H0 σ H D W tk s k)
theorem DSs.of {t : TS} (h : PSs X sts t) (hh : ∀ H0 σ H D W, Takes X W → SOk X.K H0 H σ δ → EOk X.K H0 Δ D W → t D σ H) : DSs X sts δ Δ := fun H0 σ H D W tk s k pins sh I => h.run pins sh σ H D I (hh H0 σ H D W tk s k)
theorem dss_nil (h : Δ.nx δ) : DSs X [] δ Δ := .of pss_nil fun H0 σ H D W tk s k => k.nx δ σ H h s
theorem dss_cons (h : DS X st δ { Δ with nx := fun δ' => DSs X sts δ' Δ }) : DSs X (st :: sts) δ Δ :=
  .of (pss_cons ps_S pss_S) fun H0 σ H D W tk s k => h H0 σ H _ W tk s ⟨fun δ' σ' H' p s' => p H0 σ' H' D W tk s' k, k.rt, k.bk, k.ct, k.ex⟩
theorem dss_one (h : DS X st δ Δ) : DSs X [st] δ Δ := .of (pss_one ps_S) fun H0 σ H D W tk s k => h H0 σ H D W tk s k
theorem DS.imp {Δ' : DEnds} (h : DS X st δ Δ) (h1 : ∀ δ, Δ.nx δ → Δ'.nx δ) (h2 : ∀ d, Δ.rt d → Δ'.rt d) (h3 : ∀ δ, Δ.bk δ → Δ'.bk δ) (h4 : ∀ δ, Δ.ct δ → Δ'.ct δ) (h5 : ∀ c d, Δ.ex c d → Δ'.ex c d) : DS X st δ Δ' := fun H0 σ H D W tk s k =>
  h H0 σ H D W tk s ⟨fun δ' σ' H' p => k.nx δ' σ' H' (h1 _ p), fun d v H' p => k.rt d v H' (h2 _ p), fun δ' σ' H' p => k.bk δ' σ' H' (h3 _ p), fun δ' σ' H' p => k.ct δ' σ' H' (h4 _ p), fun c ds dx fs σ' H' p => k.ex c ds dx fs σ' H' (h5 _ _ p)⟩
/-- name = e -/
theorem ds_set (i : Nat) {p : Pos} (hN : X.N.Nodup) (hi : X.N[i]? = some x) (hx : Loc X.env.scope x) (h : DE X e δ fun d => Δ.nx (δ.set i (.v d))) (hs : swapsWith e (some (.Name x p)) pos.line X.env = pure false := by rfl)
    (hf : X.fn x = true ∨ X.env.scope.names.lookup x = some .local := by first | exact .inl rfl | exact .inr rfl) : DS X (.Assign [.Name x p] e pos) δ Δ :=
  .of (ps_set hN hi hx pe_E hs hf) fun H0 σ H D W tk s k => h σ H _ s.en fun d v H' p kp hd => k.nx _ _ H' p ((s.keep kp).set i hd)
theorem ds_ret (h : DE X e δ Δ.rt) : DS X (.Return (some e) pos) δ Δ := .of (ps_ret pe_E) fun H0 σ H D W tk s k => h σ H _ s.en fun d v H' p kp hd => k.rt d v H' p (s.kp.trans kp) hd
theorem ds_expr (h : DE X e δ fun _ => Δ.nx δ) (hs : swapsWith e none pos.line X.env = pure false := by rfl) : DS X (.Expr e pos) δ Δ := .of (ps_expr pe_E hs) fun H0 σ H D W tk s k => h σ H _ s.en fun d v H' p kp hd => k.nx _ _ H' p (s.keep kp)
theorem ds_if (h : DT X c δ fun b => (b = true → DSs X body δ Δ) ∧ (b = false → DSs X orelse δ Δ)) : DS X (.If c body orelse pos) δ Δ :=
  .of (ps_if pt_T pss_S pss_S) fun H0 σ H D W tk s k => h σ H _ s.en fun b H' ⟨h1, h2⟩ kp => by
    cases b with
    | true => exact iteT (h1 rfl H0 σ H' D W tk (s.keep kp) k)
    | false => exact iteF (h2 rfl H0 σ H' D W tk (s.keep kp) k)
/-- a statement that is not come to -/
theorem ds_never (h : False) : DS X st δ Δ := h.elim
theorem dss_never (h : False) : DSs X sts δ Δ := h.elim
/-! ### unpacking -/
theorem ds_asg2 (i j : Nat) {y : Str} {p q t : Pos} {n : Nat} (hc : X.calm = true) (hN : X.N.Nodup) (hi : X.N[i]? = some x) (hj : X.N[j]? = some y) (hx : Loc X.env.scope x) (hy : Loc X.env.scope y)
    (h : DE X e δ fun d => ∃ a b, d = .tup [a, b] ∧ Δ.nx ((δ.set i (.v a)).set j (.v b)))
    (hs : swapsWithSole [.Tuple [.Name x p, .Name y q] n t] e pos.line X.env = pure false := by rfl) (hw : swappedStores [.Tuple [.Name x p, .Name y q] n t] e X.env = pure none := by rfl)
    (hf : X.fn x = true ∨ X.env.scope.names.lookup x = some .local := by first | exact .inl rfl | exact .inr rfl) (hf2 : X.fn y = true ∨ X.env.scope.names.lookup y = some .local := by first | exact .inl rfl | exact .inr rfl) :
    DS X (.Assign [.Tuple [.Name x p, .Name y q] n t] e pos) δ Δ :=
  .of (ps_asg pe_E (pg_tup hc (pgs_cons (pg_name hN hi hx hf) (pgs_cons (pg_name hN hj hy hf2) pgs_nil))) hs hw) fun H0 σ H D W tk s k => h σ H _ s.en fun d v H' ⟨a, b, ed, p⟩ kp hd => by
    subst ed
    cases hd with
    | tup hh hl =>
      cases hl with
      | cons h1 hl =>
        cases hl with
        | cons h2 hl =>
          cases hl
          exact ⟨_, _, rfl, hh, rfl, _, _, rfl, _, _, rfl, rfl, k.nx _ _ H' p (((s.keep kp).set i h1).set j h2)⟩
theorem ds_asg4 (i j l m : Nat) {y z w : Str} {p q p3 p4 t : Pos} {n : Nat} (hc : X.calm = true) (hN : X.N.Nodup) (hi : X.N[i]? = some x) (hj : X.N[j]? = some y) (hl : X.N[l]? = some z) (hm : X.N[m]? = some w) (hx : Loc X.env.scope x) (hy : Loc X.env.scope y) (hz : Loc X.env.scope z) (hw' : Loc X.env.scope w)
    (h : DE X e δ fun d => ∃ a b c f, d = .tup [a, b, c, f] ∧ Δ.nx ((((δ.set i (.v a)).set j (.v b)).set l (.v c)).set m (.v f)))
    (hs : swapsWithSole [.Tuple [.Name x p, .Name y q, .Name z p3, .Name w p4] n t] e pos.line X.env = pure false := by rfl) (hw : swappedStores [.Tuple [.Name x p, .Name y q, .Name z p3, .Name w p4] n t] e X.env = pure none := by rfl)
    (hf : X.fn x = true ∨ X.env.scope.names.lookup x = some .local := by first | exact .inl rfl | exact .inr rfl) (hf2 : X.fn y = true ∨ X.env.scope.names.lookup y = some .local := by first | exact .inl rfl | exact .inr rfl)
    (hf3 : X.fn z = true ∨ X.env.scope.names.lookup z = some .local := by first | exact .inl rfl | exact .inr rfl) (hf4 : X.fn w = true ∨ X.env.scope.names.lookup w = some .local := by first | exact .inl rfl | exact .inr rfl) :
    DS X (.Assign [.Tuple [.Name x p, .Name y q, .Name z p3, .Name w p4] n t] e pos) δ Δ :=
  .of (ps_asg pe_E (pg_tup hc (pgs_cons (pg_name hN hi hx hf) (pgs_cons (pg_name hN hj hy hf2) (pgs_cons (pg_name hN hl hz hf3) (pgs_cons (pg_name hN hm hw' hf4) pgs_nil))))) hs hw) fun H0 σ H D W tk s k => h σ H _ s.en fun d v H' ⟨a, b, c, f, ed, p⟩ kp hd => by
    subst ed
    cases hd with
    | tup hh hl =>
      cases hl with
      | cons h1 hl =>
        cases hl with
        | cons h2 hl =>
          cases hl with
          | cons h3 hl =>
            cases hl with
            | cons h4 hl =>
              cases hl
              exact ⟨_, _, rfl, hh, rfl, _, _, rfl, _, _, rfl, _, _, rfl, _, _, rfl, rfl, k.nx _ _ H' p (((((s.keep kp).set i h1).set j h2).set l h3).set m h4)⟩
/-! ### for -/
/-- data alone: no list of the def's own, no instance in the making, nothing of the base -/
def vO : List Sl → Bool
  | [] => true
  | .v _ :: l => vO l
  | .no :: l => vO l
  | _ :: _ => false
theorem vO_at : ∀ {δ : List Sl} {i : Nat} {s : Sl}, vO δ = true → δ[i]? = some s → (∃ d, s = .v d) ∨ s = .no
  | [], _, _, _, e => by cases e
  | .v d :: l, 0, s, _, e => by cases e; exact .inl ⟨d, rfl⟩
  | .no :: l, 0, s, _, e => by cases e; exact .inr rfl
  | .v d :: l, i + 1, s, h, e => vO_at (δ := l) (i := i) h e
  | .no :: l, i + 1, s, h, e => vO_at (δ := l) (i := i) h e
  | .b _ :: _, _, _, h, _ => by cases h
  | .ow _ :: _, _, _, h, _ => by cases h
  | .ini _ _ _ :: _, _, _, h, _ => by cases h
theorem vO_set {d : D} : ∀ {δ : List Sl}, vO δ = true → ∀ i : Nat, vO (δ.set i (.v d)) = true
  | [], _, _ => rfl
  | .v _ :: _, h, 0 => h
  | .no :: _, h, 0 => h
  | .v _ :: r, h, i + 1 => vO_set (δ := r) h i
  | .no :: r, h, i + 1 => vO_set (δ := r) h i
  | .b _ :: _, h, _ => by cases h
  | .ow _ :: _, h, _ => by cases h
  | .ini _ _ _ :: _, h, _ => by cases h
def unb1 : Sl → Sl
  | .b d => .v d
  | s => s
def unb (δ : List Sl) : List Sl := δ.map unb1
theorem SOk.unb {K : PySem.W.Frag} {H0 H : Hp} {σ : L2.St} {δ : List Sl} (s : SOk K H0 H σ δ) : SOk K H0 H σ (unb δ) := by
  refine ⟨s.kp, ⟨s.en.1, by rw [Fr.unb, List.length_map]; exact s.en.2.1, fun i z e => ?_⟩, fun i d e => ?_, fun i l e => ?_, fun i a' c l e => ?_⟩
  · rw [Fr.unb, List.getElem?_map] at e
    cases q : δ[i]? with
    | none => rw [q] at e; cases e
    | some u =>
      rw [q] at e
      obtain ⟨o, e1, e2⟩ := s.en.2.2 i u q
      refine ⟨o, e1, ?_⟩
      cases e
      cases u <;> exact e2
  · rw [Fr.unb, List.getElem?_map] at e
    cases q : δ[i]? with
    | none => rw [q] at e; cases e
    | some u =>
      rw [q] at e
      cases u <;> cases e
  · rw [Fr.unb, List.getElem?_map] at e
    cases q : δ[i]? with
    | none => rw [q] at e; cases e
    | some u =>
      rw [q] at e
      cases u <;> cases e
      exact s.nw i l q
  · rw [Fr.unb, List.getElem?_map] at e
    cases q : δ[i]? with
    | none => rw [q] at e; cases e
    | some u =>
      rw [q] at e
      cases u <;> cases e
      exact s.ni i a' c l q
theorem SOk.vO {K : PySem.W.Frag} {H0 H : Hp} {σ : L2.St} {δ : List Sl} (k : Kp K H0 H) (e : Ek K H σ δ) (h : vO δ = true) : SOk K H0 H σ δ :=
  ⟨k, e, fun i d q => (by rcases vO_at h q with ⟨_, z⟩ | z <;> cases z), fun i d q => (by rcases vO_at h q with ⟨_, z⟩ | z <;> cases z), fun i a c d q => (by rcases vO_at h q with ⟨_, z⟩ | z <;> cases z)⟩
/-- over a tuple; what is walked stands, whatever a turn does -/
theorem ds_forT (i : Nat) {p : Pos} (hc : X.calm = true) (hp : PassesOwn (model X.prog X.w) X.A X.env X.xe) (hN : X.N.Nodup) (hi : X.N[i]? = some x) (hx : Loc X.env.scope x)
    (h : DE X e δ fun d => ∃ l, d = .tup l ∧ ∃ I : Nat → List Sl → Prop, (∀ j δ', I j δ' → vO δ' = true) ∧ I 0 (unb δ) ∧ (∀ j y δ', l[j]? = some y → I j δ' → DSs X body (δ'.set i (.v y)) { nx := I (j + 1), ct := I (j + 1), rt := Δ.rt, ex := Δ.ex }) ∧ ∀ δ', I l.length δ' → Δ.nx δ')
    (hf : X.fn x = true ∨ X.env.scope.names.lookup x = some .local := by first | exact .inl rfl | exact .inr rfl) (hs : ∀ y, foldedSetIterable e X.env y = pure y := by intro _; rfl) : DS X (.For (.Name x p) e body [] pos) δ Δ :=
  .of (ps_for hp hc (pi_tup pe_E) (pg_name hN hi hx hf) pss_S hs) fun H0 σ H D W tk s k => h σ H _ s.en fun d v H1 ⟨l, ed, I, hv, h0, hs, hd⟩ kp hd1 => by
    subst ed
    cases hd1 with
    | @tup a xs _ hh hl =>
      refine ⟨a, rfl, ⟨xs, hh⟩, for_tup (xs := xs) (fun j σ' H' => ∃ δ', I j δ' ∧ SOk X.K H0 H' σ' δ' ∧ SqT X.K H' a xs ∧ DatL X.K H' xs l) ⟨_, h0, (s.keep kp).unb, hh, hl⟩ (fun j σ' H' _ ⟨_, _, _, z, _⟩ => z) (fun j y σ' H' hy ⟨δ', hI, s', z1, z2⟩ => ?_) fun σ' H' ⟨δ', hI, s', _, _⟩ => ?_⟩
      · obtain ⟨d', e1, e2⟩ := z2.getV hy
        have s2 := s'.set i e2
        have kk := s'.kp
        have vo : vO (δ'.set i (.v d')) = true := vO_set (hv j δ' hI) i
        refine hs j d' δ' e1 hI H' _ H' _ W tk (.vO (Kp.refl _ _) s2.en vo) ⟨fun δ3 σ3 H3 p3 s3 => ⟨δ3, p3, .vO (kk.trans s3.kp) s3.en (hv _ _ p3), sqT_keep s3.kp z1, z2.keep s3.kp⟩, fun d3 v3 H3 p3 k3 => k.rt d3 v3 H3 p3 (kk.trans k3), fun _ _ _ p3 => p3.elim,
          fun δ3 σ3 H3 p3 s3 => ⟨δ3, p3, .vO (kk.trans s3.kp) s3.en (hv _ _ p3), sqT_keep s3.kp z1, z2.keep s3.kp⟩, fun c ds dx fs σ3 H3 p3 k3 => k.ex c ds dx fs σ3 H3 p3 (kk.trans k3)⟩
      · rw [hl.length] at hI
        exact k.nx _ _ H' (hd δ' hI) s'
/-- over a list -/
theorem ds_forL (i : Nat) {p : Pos} (hc : X.calm = true) (hp : PassesOwn (model X.prog X.w) X.A X.env X.xe) (hN : X.N.Nodup) (hi : X.N[i]? = some x) (hx : Loc X.env.scope x)
    (h : DE X e δ fun d => ∃ l, d = .lst l ∧ ∃ I : Nat → List Sl → Prop, (∀ j δ', I j δ' → vO δ' = true) ∧ I 0 (unb δ) ∧ (∀ j y δ', l[j]? = some y → I j δ' → DSs X body (δ'.set i (.v y)) { nx := I (j + 1), ct := I (j + 1), rt := Δ.rt, ex := Δ.ex }) ∧ ∀ δ', I l.length δ' → Δ.nx δ')
    (hf : X.fn x = true ∨ X.env.scope.names.lookup x = some .local := by first | exact .inl rfl | exact .inr rfl) (hs : ∀ y, foldedSetIterable e X.env y = pure y := by intro _; rfl) : DS X (.For (.Name x p) e body [] pos) δ Δ :=
  .of (ps_for hp hc (pi_list pe_E) (pg_name hN hi hx hf) pss_S hs) fun H0 σ H D W tk s k => h σ H _ s.en fun d v H1 ⟨l, ed, I, hv, h0, hs, hd⟩ kp hd1 => by
    subst ed
    cases hd1 with
    | @lst a xs _ hh hl =>
      refine ⟨a, rfl, ⟨xs, .of hh⟩, for_list (xs := xs) (fun j σ' H' => ∃ δ', I j δ' ∧ SOk X.K H0 H' σ' δ' ∧ H' a = some (.lst xs) ∧ DatL X.K H' xs l) ⟨_, h0, (s.keep kp).unb, hh, hl⟩ (fun j σ' H' _ ⟨_, _, _, z, _⟩ => .of z) (fun j y σ' H' hy ⟨δ', hI, s', z1, z2⟩ => ?_) fun σ' H' ⟨δ', hI, s', _, _⟩ => ?_⟩
      · obtain ⟨d', e1, e2⟩ := z2.getV hy
        have s2 := s'.set i e2
        have kk := s'.kp
        have vo : vO (δ'.set i (.v d')) = true := vO_set (hv j δ' hI) i
        refine hs j d' δ' e1 hI H' _ H' _ W tk (.vO (Kp.refl _ _) s2.en vo) ⟨fun δ3 σ3 H3 p3 s3 => ⟨δ3, p3, .vO (kk.trans s3.kp) s3.en (hv _ _ p3), s3.kp.st _ _ z1 trivial, z2.keep s3.kp⟩, fun d3 v3 H3 p3 k3 => k.rt d3 v3 H3 p3 (kk.trans k3), fun _ _ _ p3 => p3.elim,
          fun δ3 σ3 H3 p3 s3 => ⟨δ3, p3, .vO (kk.trans s3.kp) s3.en (hv _ _ p3), s3.kp.st _ _ z1 trivial, z2.keep s3.kp⟩, fun c ds dx fs σ3 H3 p3 k3 => k.ex c ds dx fs σ3 H3 p3 (kk.trans k3)⟩
      · rw [hl.length] at hI
        exact k.nx _ _ H' (hd δ' hI) s'
/-- over range(n) -/
theorem ds_forR (i : Nat) {p p2 p3 : Pos} {a : Expr} (hc : X.calm = true) (hp : PassesOwn (model X.prog X.w) X.A X.env X.xe) (hN : X.N.Nodup) (hi : X.N[i]? = some x) (hx : Loc X.env.scope x) (hg : Gl X "range") (hm : X.mg "range" = none)
    (h : DE X a δ fun d => ∃ n : Nat, d = .int n ∧ n ≤ 1000000 ∧ ∃ I : Nat → List Sl → Prop, I 0 δ ∧ (∀ j δ', j < n → I j δ' → DSs X body (δ'.set i (.v (.int j))) { nx := I (j + 1), ct := I (j + 1), rt := Δ.rt, ex := Δ.ex }) ∧ ∀ δ', I n δ' → Δ.nx δ')
    (hf : X.fn x = true ∨ X.env.scope.names.lookup x = some .local := by first | exact .inl rfl | exact .inr rfl) (hs : ∀ y, foldedSetIterable (.Call (.Name "range" p2) [a] [] p3) X.env y = pure y := by intro _; rfl)
    (he : starEach [a] X.env = [(false, eval a X.env)] := by rfl) : DS X (.For (.Name x p) (.Call (.Name "range" p2) [a] [] p3) body [] pos) δ Δ :=
  .of (ps_for hp hc (pi_range1 hg hm (pa_cons pe_E pa_nil he) he) (pg_name hN hi hx hf) pss_S hs) fun H0 σ H D W tk s k => h σ H _ s.en fun d v H1 ⟨n, ed, hn, I, h0, hs, hd⟩ kp hd1 => by
    subst ed
    cases hd1
    refine ⟨(n : Int), rfl, by omega, by omega, ?_⟩
    rw [Int.toNat_natCast]
    refine for_range (lo := 0) (fun j σ' H' => ∃ δ', I j δ' ∧ SOk X.K H0 H' σ' δ') ⟨_, h0, s.keep kp⟩ (fun j σ' H' hj ⟨δ', hI, s'⟩ => ?_) fun σ' H' ⟨δ', hI, s'⟩ => k.nx _ _ H' (hd δ' hI) s'
    rw [Int.zero_add]
    refine hs j δ' hj hI H0 _ H' _ W tk (s'.set i (.int _)) ⟨fun δ3 σ3 H3 p3 s3 => ⟨δ3, p3, s3⟩, k.rt, fun _ _ _ p3 => p3.elim, fun δ3 σ3 H3 p3 s3 => ⟨δ3, p3, s3⟩, k.ex⟩
end
/-! ### what a def promises of data -/
/-- the arguments' data, what is wanted of the answer, of an error -/
abbrev DSp := List D → (D → Prop) → (Nat → List D → Prop) → Prop
def toSp (K : PySem.W.Frag) (sp : DSp) : Sp := fun vs H Q E => ∃ ds Φ Ψ, DatL K H vs ds ∧ Tabs K H ∧ sp ds Φ Ψ ∧ Kd K H Φ Q ∧ Kx K H Ψ E
/-- .. an __init__: the instance is new -/
def toSpI (K : PySem.W.Frag) (c : Nat) (sp : DSp) : Sp := fun vs H Q E => ∃ a dx us ds Φ Ψ H1, vs = V.ref a :: us ∧ H1 a = none ∧ H1 dx = none ∧ dx ≠ a ∧ H = upd (upd H1 dx (.own a)) a (.ins (cA K c) dx []) ∧ DatL K H1 us ds ∧ Tabs K H1 ∧ sp ds Φ Ψ ∧
  (∀ d H', Φ d → Kp K H1 H' → Dat K H' (.ref a) d → Q .non H') ∧ Kx K H1 Ψ E
def no2 : Nat → List D → Prop := fun _ _ => False
/-- a def that may be called by its name -/
structure Cal (P : Program) (w : World) (K : PySem.W.Frag) (mg : Str → Option Value) (base : Heap) (k : Nat) (x : Str) (sp : DSp) : Prop where
  ex : ∃ (f : Addr) (fd : FuncData) (ps : List Str), FnOk P w K mg base (L2.CX P w) k f fd ps (toSp K sp) ∧ mg x = some (.ref f) ∧ PySem.W.keepIn K (.ref f) = true ∧ Binds K fd ps []
/-- a class that may be made by its name, all parameters written by place -/
structure Mak (P : Program) (w : World) (K : PySem.W.Frag) (mg : Str → Option Value) (base : Heap) (k : Nat) (x : Str) (c : Nat) (sp : DSp) : Prop where
  ex : ∃ (f : Addr) (fd : FuncData) (ps : List Str), Mk K (cA K c) f ∧ FnOk P w K mg base (L2.CX P w) k f fd ps (toSpI K c sp) ∧ mg x = some (.ref (cA K c)) ∧ Binds K fd ps []
/-- a method -/
structure Met (P : Program) (w : World) (K : PySem.W.Frag) (mg : Str → Option Value) (base : Heap) (k : Nat) (c : Nat) (m : Str) (sp : DSp) : Prop where
  ex : ∃ (f : Addr) (fd : FuncData) (ps : List Str), Cls K (cA K c) ∧ Meth K (cA K c) m f ∧ FnOk P w K mg base (L2.CX P w) k f fd ps (toSp K sp) ∧ Binds K fd ps [] ∧ m ∉ fN c
section
variable {X : Cx} {δ : List Sl} {Φ : D → Prop} {e o : Expr} {es : List Expr} {p pos apos : Pos} {x m : Str} {k c : Nat} {sp : DSp}
theorem kx_no {K : PySem.W.Frag} {H : Hp} {E : XK} : Kx K H no2 E := fun _ _ _ _ _ z => z.elim
theorem de_call (C : Cal X.prog X.w X.K X.mg X.base k x sp) (hr : Room k X.A) (hg : Gl X x) (h : DA X (e :: es) δ fun ds => sp ds Φ no2) (hdb : (x == ("__debug__" : Str)) = false := by decide)
    (he : starEach (e :: es) X.env = (false, eval e X.env) :: starEach es X.env := by rfl) (hpl : (backTo pos (starEach es X.env)).any (·.1) = false := by rfl) : DE X (.Call (.Name x p) (e :: es) [] pos) δ Φ := by
  obtain ⟨f, fd, ps, F, hm, hk, hb⟩ := C.ex
  refine .of (pe_call F hr hg hm hk hb .nil passL pa_A hdb he hpl) fun σ H Q en kk => h σ H _ en fun ds vs H1 q k1 d1 => ?_
  rw [List.append_nil]
  exact ⟨ds, Φ, no2, d1, (en.keep k1).1, q, fun d u H2 p k2 => kk d u H2 p (k1.trans k2), kx_no⟩
theorem datF_no {K : PySem.W.Frag} {H : Hp} {m : Str} : ∀ {fs : List (Str × V)} {ns : List Str} {l : List D}, DatF K H fs ns l → m ∉ ns → fs.lookup m = none
  | _, _, _, .nil, _ => rfl
  | _, _, _, .cons (n := n) _ r, h => by
    rw [List.mem_cons, not_or] at h
    rw [List.lookup_cons, beq_eq_false_iff_ne.mpr h.1]
    exact datF_no r h.2
theorem de_meth {pl : Sem Bool} (C : Met X.prog X.w X.K X.mg X.base k c m sp) (hr : Room k X.A) (h : DE X o δ fun x => ∃ l, x = .obj c l ∧ DA X (e :: es) δ fun ds => sp (x :: ds) Φ no2)
    (hst : starEach (e :: es) X.env = (false, eval e X.env) :: starEach es X.env := by rfl) (hpl : (backTo pos (starEach es X.env)).any (·.1) = false := by rfl)
    (ht : eval (.Call (.Attribute o m apos) (e :: es) [] pos) X.env = (do
      let ov ← eval o X.env
      standAt apos.atName
      let (f, first) ← holding [ov] (getMethod ov m pl)
      callWith pos f first (backTo pos (starEach (e :: es) X.env)) (backToKw pos (keywordEach [] X.env))) := by rfl) : DE X (.Call (.Attribute o m apos) (e :: es) [] pos) δ Φ := by
  obtain ⟨f, fd, ps, cl, me, F, hb, hn⟩ := C.ex
  refine .of (pe_meth pe_E cl me F hr hb .nil passL pa_A hst hpl ht) fun σ H Q en kk => h σ H _ en fun d v H1 ⟨l, ed, q⟩ k1 d1 => ?_
  subst ed
  cases d1 with
  | @obj a dx _ fs _ hh hl =>
    refine ⟨a, dx, fs, rfl, hh, datF_no hl hn, q σ H1 _ (en.keep k1) fun ds vs H2 q k2 d2 => ?_⟩
    rw [List.append_nil]
    exact ⟨.obj c l :: ds, Φ, no2, .cons (.obj (k2.st _ _ hh trivial) (hl.keep k2)) d2, ((en.keep k1).keep k2).1, q, fun d u H3 p k3 => kk d u H3 p ((k1.trans k2).trans k3), kx_no⟩
theorem datF_look {K : PySem.W.Frag} {H : Hp} {m : Str} : ∀ {fs : List (Str × V)} {ns : List Str} {l : List D} {z : D}, DatF K H fs ns l → (ns.zip l).lookup m = some z → ∃ v, fs.lookup m = some v ∧ Dat K H v z
  | _, _, _, _, .nil, e => by cases e
  | _, _, _, _, .cons (n := n) (v := v) h r, e => by
    rw [List.zip_cons_cons] at e
    by_cases hk : m = n
    · subst hk
      rw [List.lookup_cons_self] at e
      cases e
      exact ⟨v, List.lookup_cons_self, h⟩
    · rw [List.lookup_cons, beq_eq_false_iff_ne.mpr hk] at e
      obtain ⟨u, e1, e2⟩ := datF_look r e
      exact ⟨u, by rw [List.lookup_cons, beq_eq_false_iff_ne.mpr hk]; exact e1, e2⟩
/-- e.f of a paper -/
theorem de_fld {f : Str} (T : ∀ c, Cls X.K (cA X.K c)) (h : DE X e δ fun x => ∃ c l z, x = .obj c l ∧ NoAttr X.K (cA X.K c) f ∧ ((fN c).zip l).lookup f = some z ∧ Φ z) (hb : attributeBase e f X.env (eval e X.env) = eval e X.env := by rfl) : DE X (.Attribute e f pos) δ Φ :=
  .of (pe_fld pe_E hb) fun σ H Q en kk => h σ H _ en fun d v H1 ⟨c, l, z, ed, hn, ez, q⟩ k1 d1 => by
    subst ed
    cases d1 with
    | @obj a dx _ fs _ hh hl =>
      obtain ⟨u, e1, e2⟩ := datF_look hl ez
      exact ⟨a, _, dx, fs, u, rfl, hh, T c, hn, e1, kk _ _ H1 q k1 e2⟩
/-- C(e, ..) -/
theorem de_make (C : Mak X.prog X.w X.K X.mg X.base k x c sp) (hr : Room (k + 1) X.A) (hg : Gl X x) (h : DA X (e :: es) δ fun ds => sp ds Φ no2) (hdb : (x == ("__debug__" : Str)) = false := by decide)
    (he : starEach (e :: es) X.env = (false, eval e X.env) :: starEach es X.env := by rfl) (hpl : (backTo pos (starEach es X.env)).any (·.1) = false := by rfl) : DE X (.Call (.Name x p) (e :: es) [] pos) δ Φ := by
  obtain ⟨f, fd, ps, M, F, hm, hb⟩ := C.ex
  refine .of (pe_make M F hr hg hm hb .nil passL pa_A hdb he hpl) fun σ H Q en kk => h σ H _ en fun ds vs H1 q k1 d1 a dx ha hdx hne => ?_
  rw [List.append_nil]
  exact ⟨a, dx, vs, ds, Φ, no2, H1, rfl, ha, hdx, hne, rfl, d1, (en.keep k1).1, q, fun d H2 p k2 hd => ⟨rfl, kk d _ H2 p (k1.trans k2) hd⟩, kx_no⟩
end
/-! ### a def by its body -/
def startD (N : List Str) (ds : List D) : List Sl := ds.map .b ++ List.replicate (N.length - ds.length) .no
theorem start_ok {K : PySem.W.Frag} {H : Hp} {N : List Str} {vs : List V} {ds : List D} (t : Tabs K H) (d : DatL K H vs ds) : SOk K H H (L2.start N vs) (startD N ds) := by
  have key : ∀ (i : Nat) (s : Sl), (startD N ds)[i]? = some s → ∃ o, (L2.start N vs)[i]? = some o ∧ ((∃ v d, o = some v ∧ s = .b d ∧ Dat K H v d) ∨ s = .no) := fun i s e => by
    unfold startD at e
    unfold L2.start
    rw [List.getElem?_append] at e ⊢
    rw [List.length_map] at e ⊢
    rw [← d.length] at e
    by_cases hi : i < vs.length
    · rw [if_pos hi] at e ⊢
      rw [List.getElem?_map] at e ⊢
      cases q : ds[i]? with
      | none => rw [q] at e; cases e
      | some z =>
        rw [q] at e
        obtain ⟨u, e1, e2⟩ := d.get q
        rw [e1]
        cases e
        exact ⟨some u, rfl, .inl ⟨u, z, rfl, rfl, e2⟩⟩
    · rw [if_neg hi] at e ⊢
      rw [List.getElem?_replicate] at e ⊢
      split at e
      · rename_i hl
        rw [if_pos hl]
        cases e
        exact ⟨none, rfl, .inr rfl⟩
      · cases e
  refine ⟨Kp.refl _ _, ⟨t, ?_, fun i s e => ?_⟩, fun i z e => ?_, fun i z e => ?_, fun i a c z e => ?_⟩
  · unfold startD L2.start
    rw [List.length_append, List.length_append, List.length_map, List.length_map, List.length_replicate, List.length_replicate, d.length]
  · obtain ⟨o, e1, h | h⟩ := key i s e
    · obtain ⟨v, z, eo, es, hd⟩ := h
      subst es
      exact ⟨o, e1, v, eo, hd⟩
    · subst h
      exact ⟨o, e1, trivial⟩
  · obtain ⟨o, e1, h | h⟩ := key i _ e
    · obtain ⟨v, z', eo, es, hd⟩ := h
      cases es
      subst eo
      exact ⟨v, e1, hd⟩
    · cases h
  · obtain ⟨o, e1, h | h⟩ := key i _ e
    · obtain ⟨v, z', eo, es, hd⟩ := h
      cases es
    · cases h
  · obtain ⟨o, e1, h | h⟩ := key i _ e
    · obtain ⟨v, z', eo, es, hd⟩ := h
      cases es
    · cases h
section
variable {P : Program} {w : World} {K : PySem.W.Frag} {mg : Str → Option Value} {base : Heap} {x qual : Str} {params : Arguments} {body : List Stmt} {scope : Scope} {dvs : List V} {kws : List (Str × V)} {f : Addr} {fd : FuncData} {N ps : List Str} {k : Nat} {sp : DSp}
abbrev bcx (P : Program) (w : World) (K : PySem.W.Frag) (mg : Str → Option Value) (base : Heap) (N : List Str) (qual : Str) (scope : Scope) (f : Addr) (cdv : Value) (A : Around) (outer : List Env) (s : Shared) (H : Hp) (E : XK) : Cx := cxOf (L2.CX P w) P w K mg base N qual scope f cdv A outer s H E
theorem fn_ok (F : FunD K x qual params body scope dvs kws f fd) (S : FnScope N ps scope) (len : ∀ ds Φ Ψ, sp ds Φ Ψ → ds.length = ps.length)
    (hbody : ∀ (cdv : Value) (A : Around) (outer : List Env) (s : Shared) (H : Hp) (E : XK), PySem.W.codeIn K cdv qual = true → K.lookup f = some ⟨.type "function", none, .func fd, #[]⟩ ∨ True → Room k (A.deeper (envOfC qual scope s.heap.objs.size f cdv)) → ∀ ds Φ Ψ, sp ds Φ Ψ →
      DSs (bcx P w K mg base N qual scope f cdv A outer s H E) body (startD N ds) { nx := fun _ => Φ .non, rt := Φ, ex := Ψ }) : FnOk P w K mg base (L2.CX P w) (k + 1) f fd ps (toSp K sp) := by
  obtain ⟨oc, od, dV, kV, doc, pm, an, cdv, ct, osl, rfl, lk, hcd, _, _⟩ := F.ex
  refine fn_of lk hcd S (fun vs H Q E ⟨ds, Φ, Ψ, h1, _, h2, _⟩ => by rw [h1.length]; exact len ds Φ Ψ h2) fun A outer s H vs Q E hr hsp => ?_
  obtain ⟨ds, Φ, Ψ, hd, ht, hs, k1, k2⟩ := hsp
  refine ⟨tSs _ body, pss_S, hbody cdv A outer s H E hcd (.inr trivial) hr ds Φ Ψ hs H _ H _ (fun cls d _ H => E cls d H) (takes_of rfl rfl rfl rfl) (start_ok ht hd) ⟨fun δ σ H' p s' => k1 _ _ H' p s'.kp .non, fun d v H' p kp hd => k1 d v H' p kp hd, fun _ _ _ p => p.elim, fun _ _ _ p => p.elim, fun c ds dx fs σ H' p kp e hf => k2 c ds dx fs H' p kp e hf⟩⟩
end
end Fr
end
-- FrOps
section
set_option Elab.async false
set_option linter.all false
set_option maxRecDepth 100000
/-! One rule for each operator, its data told behind; plain data and what == says of them. -/
namespace Fr
open PySem PySem.Spec PyProof.Rows L2
/-! ### plain data of a depth -/
mutual
def D.ok : D → Nat → Bool
  | .non, _ => true
  | .bl _, _ => true
  | .int _, _ => true
  | .str x, _ => PyData.strOk x
  | .tup l, n + 1 => okL l n
  | .lst l, n + 1 => okL l n
  | _, _ => false
def okL : List D → Nat → Bool
  | [], _ => true
  | d :: l, n => D.ok d n && okL l n
end
mutual
theorem D.ok_pl : ∀ {d : D} {n : Nat}, d.ok n = true → d.pl = true
  | .non, _, _ => by rw [D.pl]
  | .bl _, _, _ => by rw [D.pl]
  | .int _, _, _ => by rw [D.pl]
  | .str _, _, _ => by rw [D.pl]
  | .tup l, n + 1, h => by
    rw [D.ok] at h
    rw [D.pl]
    exact okL_pl h
  | .lst l, n + 1, h => by
    rw [D.ok] at h
    rw [D.pl]
    exact okL_pl h
  | .tup _, 0, h => by simp [D.ok] at h
  | .lst _, 0, h => by simp [D.ok] at h
  | .dic _, 0, h => by simp [D.ok] at h
  | .dic _, _ + 1, h => by simp [D.ok] at h
  | .obj _ _, 0, h => by simp [D.ok] at h
  | .obj _ _, _ + 1, h => by simp [D.ok] at h
  | .tape, 0, h => by simp [D.ok] at h
  | .tape, _ + 1, h => by simp [D.ok] at h
  | .fnc _ _, 0, h => by simp [D.ok] at h
  | .fnc _ _, _ + 1, h => by simp [D.ok] at h
  | .exn _ _ _ _, 0, h => by simp [D.ok] at h
  | .exn _ _ _ _, _ + 1, h => by simp [D.ok] at h
  | .scr _, 0, h => by simp [D.ok] at h
  | .scr _, _ + 1, h => by simp [D.ok] at h
theorem okL_pl : ∀ {l : List D} {n : Nat}, okL l n = true → plL l = true
  | [], _, _ => by rw [plL]
  | d :: l, n, h => by
    rw [okL, Bool.and_eq_true] at h
    rw [plL, D.ok_pl h.1, okL_pl h.2]
    rfl
end
mutual
theorem D.ok_lay : ∀ {d : D} {n : Nat}, d.ok n = true → d.py.canLay0 = true ∧ d.py.depth ≤ n
  | .non, _, _ => by rw [D.py]; exact ⟨rfl, Nat.zero_le _⟩
  | .bl _, _, _ => by rw [D.py]; exact ⟨rfl, Nat.zero_le _⟩
  | .int _, _, _ => by rw [D.py]; exact ⟨rfl, Nat.zero_le _⟩
  | .str x, _, h => by
    rw [D.ok] at h
    rw [D.py]
    exact ⟨by rw [PyData.canLay0]; exact h, Nat.zero_le _⟩
  | .tup l, n + 1, h => by
    rw [D.ok] at h
    rw [D.py, PyData.canLay0, PyData.depth]
    have q := okL_lay h
    exact ⟨q.1, by omega⟩
  | .lst l, n + 1, h => by
    rw [D.ok] at h
    rw [D.py, PyData.canLay0, PyData.depth]
    have q := okL_lay h
    exact ⟨q.1, by omega⟩
  | .tup _, 0, h => by simp [D.ok] at h
  | .lst _, 0, h => by simp [D.ok] at h
  | .dic _, 0, h => by simp [D.ok] at h
  | .dic _, _ + 1, h => by simp [D.ok] at h
  | .obj _ _, 0, h => by simp [D.ok] at h
  | .obj _ _, _ + 1, h => by simp [D.ok] at h
  | .tape, 0, h => by simp [D.ok] at h
  | .tape, _ + 1, h => by simp [D.ok] at h
  | .fnc _ _, 0, h => by simp [D.ok] at h
  | .fnc _ _, _ + 1, h => by simp [D.ok] at h
  | .exn _ _ _ _, 0, h => by simp [D.ok] at h
  | .exn _ _ _ _, _ + 1, h => by simp [D.ok] at h
  | .scr _, 0, h => by simp [D.ok] at h
  | .scr _, _ + 1, h => by simp [D.ok] at h
theorem okL_lay : ∀ {l : List D} {n : Nat}, okL l n = true → PyData.canLayAll0 (pyL l) = true ∧ PyData.depthAll (pyL l) ≤ n
  | [], _, _ => by rw [pyL, PyData.canLayAll0, PyData.depthAll]; exact ⟨rfl, Nat.zero_le _⟩
  | d :: l, n, h => by
    rw [okL, Bool.and_eq_true] at h
    rw [pyL, PyData.canLayAll0, PyData.depthAll]
    have a := D.ok_lay h.1
    have b := okL_lay h.2
    refine ⟨by rw [a.1, b.1]; rfl, ?_⟩
    exact Nat.max_le.mpr ⟨a.2, b.2⟩
end
theorem D.ok_shaped {d : D} {n : Nat} (h : d.ok n = true) (hn : n ≤ 64) : SeqAt.shaped d.py = true := by
  have q := D.ok_lay h
  unfold SeqAt.shaped
  rw [q.1, Bool.true_and]
  exact decide_eq_true (by omega)
mutual
theorem D.ok_mono : ∀ {d : D} {n m : Nat}, d.ok n = true → n ≤ m → d.ok m = true
  | .non, _, _, _, _ => by simp [D.ok]
  | .bl _, _, _, _, _ => by simp [D.ok]
  | .int _, _, _, _, _ => by simp [D.ok]
  | .str _, _, _, h, _ => by simp only [D.ok] at h ⊢; exact h
  | .tup l, n + 1, m + 1, h, hm => by
    rw [D.ok] at h ⊢
    exact okL_mono h (by omega)
  | .lst l, n + 1, m + 1, h, hm => by
    rw [D.ok] at h ⊢
    exact okL_mono h (by omega)
  | .tup _, _ + 1, 0, h, hm => absurd hm (by omega)
  | .lst _, _ + 1, 0, h, hm => absurd hm (by omega)
  | .tup _, 0, _, h, _ => by simp [D.ok] at h
  | .lst _, 0, _, h, _ => by simp [D.ok] at h
  | .dic _, 0, _, h, _ => by simp [D.ok] at h
  | .dic _, _ + 1, _, h, _ => by simp [D.ok] at h
  | .obj _ _, 0, _, h, _ => by simp [D.ok] at h
  | .obj _ _, _ + 1, _, h, _ => by simp [D.ok] at h
  | .tape, 0, _, h, _ => by simp [D.ok] at h
  | .tape, _ + 1, _, h, _ => by simp [D.ok] at h
  | .fnc _ _, 0, _, h, _ => by simp [D.ok] at h
  | .fnc _ _, _ + 1, _, h, _ => by simp [D.ok] at h
  | .exn _ _ _ _, 0, _, h, _ => by simp [D.ok] at h
  | .exn _ _ _ _, _ + 1, _, h, _ => by simp [D.ok] at h
  | .scr _, 0, _, h, _ => by simp [D.ok] at h
  | .scr _, _ + 1, _, h, _ => by simp [D.ok] at h
theorem okL_mono : ∀ {l : List D} {n m : Nat}, okL l n = true → n ≤ m → okL l m = true
  | [], _, _, _, _ => by rw [okL]
  | d :: l, n, m, h, hm => by
    rw [okL, Bool.and_eq_true] at h ⊢
    exact ⟨D.ok_mono h.1 hm, okL_mono h.2 hm⟩
end
theorem okL_iff {n : Nat} : ∀ {l : List D}, okL l n = true ↔ ∀ d ∈ l, d.ok n = true
  | [] => by simp [okL]
  | d :: l => by
    rw [okL, Bool.and_eq_true, okL_iff]
    simp
theorem okL_append {n : Nat} {l m : List D} (h1 : okL l n = true) (h2 : okL m n = true) : okL (l ++ m) n = true := okL_iff.mpr fun d hd => (List.mem_append.mp hd).elim (okL_iff.mp h1 d) (okL_iff.mp h2 d)
theorem ok_tup {n : Nat} {l : List D} : (D.tup l).ok (n + 1) = okL l n := by rw [D.ok]
theorem ok_lst {n : Nat} {l : List D} : (D.lst l).ok (n + 1) = okL l n := by rw [D.ok]
theorem ok_wd (l : List Int) (n : Nat) : (wd l).ok (n + 1) = true := by
  rw [ok_tup, okL_iff]
  intro d hd
  obtain ⟨i, _, rfl⟩ := List.mem_map.mp hd
  rw [D.ok]
theorem ok_sq (l : List (List Int)) (n : Nat) : (sq l).ok (n + 2) = true := by
  rw [ok_tup, okL_iff]
  intro d hd
  obtain ⟨i, _, rfl⟩ := List.mem_map.mp hd
  exact ok_wd i n
theorem D.ok_obj : ∀ {d : D} {n : Nat}, d.ok n = true → noObj d = true
  | .obj _ _, 0, h => by simp [D.ok] at h
  | .obj _ _, _ + 1, h => by simp [D.ok] at h
  | .fnc _ _, 0, h => by simp [D.ok] at h
  | .fnc _ _, _ + 1, h => by simp [D.ok] at h
  | .exn _ _ _ _, 0, h => by simp [D.ok] at h
  | .exn _ _ _ _, _ + 1, h => by simp [D.ok] at h
  | .scr _, 0, h => by simp [D.ok] at h
  | .scr _, _ + 1, h => by simp [D.ok] at h
  | .non, _, _ => rfl
  | .bl _, _, _ => rfl
  | .int _, _, _ => rfl
  | .str _, _, _ => rfl
  | .tup _, _, _ => rfl
  | .lst _, _, _ => rfl
  | .dic _, _, _ => rfl
  | .tape, _, _ => rfl
/-! ### == on plain data -/
def D.eqv (x y : D) : Bool := PyData.eqv x.py y.py
theorem eqv_ii (i j : Int) : D.eqv (.int i) (.int j) = (i == j) := by unfold D.eqv; rw [D.py, D.py, PyData.eqv]
theorem eqv_ss (i j : Str) : D.eqv (.str i) (.str j) = (i == j) := by unfold D.eqv; rw [D.py, D.py, PyData.eqv]
theorem eqv_tt (l m : List D) : D.eqv (.tup l) (.tup m) = PyData.eqvAll (pyL l) (pyL m) := by unfold D.eqv; rw [D.py, D.py, PyData.eqv]
theorem eqv_ll (l m : List D) : D.eqv (.lst l) (.lst m) = PyData.eqvAll (pyL l) (pyL m) := by unfold D.eqv; rw [D.py, D.py, PyData.eqv]
theorem eqvA_cons (x y : D) (l m : List D) : PyData.eqvAll (pyL (x :: l)) (pyL (y :: m)) = (D.eqv x y && PyData.eqvAll (pyL l) (pyL m)) := by rw [pyL, pyL, PyData.eqvAll]; rfl
theorem eqvA_nil : PyData.eqvAll (pyL []) (pyL []) = true := by rw [pyL, PyData.eqvAll]
theorem eqvA_len : ∀ {l m : List D}, PyData.eqvAll (pyL l) (pyL m) = true → l.length = m.length
  | [], [], _ => rfl
  | [], _ :: _, h => by rw [pyL, pyL, PyData.eqvAll] at h; cases h
  | _ :: _, [], h => by rw [pyL, pyL, PyData.eqvAll] at h; cases h
  | x :: l, y :: m, h => by
    rw [eqvA_cons, Bool.and_eq_true] at h
    rw [List.length_cons, List.length_cons, eqvA_len h.2]
theorem eqv_wd : ∀ (l m : List Int), PyData.eqvAll (pyL (l.map D.int)) (pyL (m.map D.int)) = decide (l = m)
  | [], [] => by rw [List.map_nil, eqvA_nil]; rfl
  | [], _ :: _ => by rw [List.map_nil, List.map_cons, pyL, pyL, PyData.eqvAll]; rfl
  | _ :: _, [] => by rw [List.map_nil, List.map_cons, pyL, pyL, PyData.eqvAll]; rfl
  | x :: l, y :: m => by
    rw [List.map_cons, List.map_cons, eqvA_cons, eqv_ii, eqv_wd l m]
    rw [Bool.eq_iff_iff]
    simp
theorem eqv_ww (l m : List Int) : D.eqv (wd l) (wd m) = decide (l = m) := by rw [eqv_tt, eqv_wd]
theorem eqv_sqA : ∀ (l m : List (List Int)), PyData.eqvAll (pyL (l.map wd)) (pyL (m.map wd)) = decide (l = m)
  | [], [] => by rw [List.map_nil, eqvA_nil]; rfl
  | [], _ :: _ => by rw [List.map_nil, List.map_cons, pyL, pyL, PyData.eqvAll]; rfl
  | _ :: _, [] => by rw [List.map_nil, List.map_cons, pyL, pyL, PyData.eqvAll]; rfl
  | x :: l, y :: m => by
    rw [List.map_cons, List.map_cons, eqvA_cons, eqv_ww, eqv_sqA l m]
    rw [Bool.eq_iff_iff]
    simp
theorem eqv_qq (l m : List (List Int)) : D.eqv (sq l) (sq m) = decide (l = m) := by rw [eqv_tt, eqv_sqA]
section
variable {X : Cx} {Φ : D → Prop}
/-! ### operators -/
def rAddU (K : PySem.W.Frag) : R2 := fun x y H Q => rI0 (fun i j => .int (i + j)) x y H Q ∨ rCatA K x y H Q ∨ rCat x y H Q
theorem op_addU : OpR X (binaryOp .Add) (rAddU X.K) := op_add.or (op_catA.or op_cat)
theorem od_addI {i j : Int} (h : Φ (.int (i + j))) : OD X (rAddU X.K) (.int i) (.int j) Φ := fun H v w Q d1 d2 k => .inl (od_I0 (g := fun i j => i + j) h H v w Q d1 d2 k)
theorem od_addT {l m : List D} (hz : l.length + m.length ≤ sizeLine) (h : Φ (.tup (l ++ m))) : OD X (rAddU X.K) (.tup l) (.tup m) Φ := fun H v w Q d1 d2 k => .inr (.inl (od_catT hz h H v w Q d1 d2 k))
theorem od_addL {l m : List D} (hz : l.length + m.length ≤ sizeLine) (h : Φ (.lst (l ++ m))) : OD X (rAddU X.K) (.lst l) (.lst m) Φ := fun H v w Q d1 d2 k => .inr (.inr (od_catL hz h H v w Q d1 d2 k))
def rMulU (K : PySem.W.Frag) : R2 := fun x y H Q => rI CMul (fun i j => .int (i * j)) x y H Q ∨ rRepT K x y H Q
theorem op_mulU : OpR X (binaryOp .Mult) (rMulU X.K) := op_mul.or op_repT
theorem od_mulI {i j : Int} (hc : CMul i j) (h : Φ (.int (i * j))) : OD X (rMulU X.K) (.int i) (.int j) Φ := fun H v w Q d1 d2 k => .inl (od_I (g := fun i j => i * j) hc h H v w Q d1 d2 k)
theorem od_mulT {l : List D} {n : Int} (h0 : l ≠ []) (h1 : 2 ≤ n ∧ n ≤ 1000) (h2 : l.length ≤ 1000) (h : Φ (.tup (List.replicate n.toNat l).flatten)) : OD X (rMulU X.K) (.tup l) (.int n) Φ := fun H v w Q d1 d2 k => .inr (od_repT h0 h1 h2 h H v w Q d1 d2 k)
theorem od_subI {i j : Int} (h : Φ (.int (i - j))) : OD X (rI0 fun i j => .int (i - j)) (.int i) (.int j) Φ := od_I0 (g := fun i j => i - j) h
theorem od_divI {i j : Int} (hc : CDiv i j) (h : Φ (.int (i / j))) : OD X (rI CDiv fun i j => .int (i / j)) (.int i) (.int j) Φ := od_I (g := fun i j => i / j) hc h
theorem od_modI {i j : Int} (hc : 0 < j) (h : Φ (.int (i % j))) : OD X (rI (fun _ j => 0 < j) fun i j => .int (i % j)) (.int i) (.int j) Φ := od_I (C := fun _ j => 0 < j) (g := fun i j => i % j) hc h
theorem od_shlI {i j : Int} (hc : CPow i j) (h : Φ (.int (i * 2 ^ j.toNat))) : OD X (rI CPow fun i j => .int (i * 2 ^ j.toNat)) (.int i) (.int j) Φ := od_I (g := fun i j => i * 2 ^ j.toNat) hc h
theorem od_shrI {i j : Int} (hc : 0 ≤ j) (h : Φ (.int (i / 2 ^ j.toNat))) : OD X (rI (fun _ j => 0 ≤ j) fun i j => .int (i / 2 ^ j.toNat)) (.int i) (.int j) Φ := od_I (C := fun _ j => 0 ≤ j) (g := fun i j => i / 2 ^ j.toNat) hc h
theorem od_andI {i j : Int} (h : Φ (.int (Builtin.bitAnd i j))) : OD X (rI0 fun i j => .int (Builtin.bitAnd i j)) (.int i) (.int j) Φ := od_I0 (g := fun i j => Builtin.bitAnd i j) h
theorem od_xorI {i j : Int} (h : Φ (.int (Builtin.bitXor i j))) : OD X (rI0 fun i j => .int (Builtin.bitXor i j)) (.int i) (.int j) Φ := od_I0 (g := fun i j => Builtin.bitXor i j) h
theorem od_ltI {i j : Int} (h : Φ (.bl (decide (i < j)))) : OD X (rI0 fun i j => .bl (decide (i < j))) (.int i) (.int j) Φ := od_B0 (g := fun i j => decide (i < j)) h
theorem od_leI {i j : Int} (h : Φ (.bl (decide (i ≤ j)))) : OD X (rI0 fun i j => .bl (decide (i ≤ j))) (.int i) (.int j) Φ := od_B0 (g := fun i j => decide (i ≤ j)) h
theorem od_gtI {i j : Int} (h : Φ (.bl (decide (j < i)))) : OD X (rI0 fun i j => .bl (decide (j < i))) (.int i) (.int j) Φ := od_B0 (g := fun i j => decide (j < i)) h
theorem od_geI {i j : Int} (h : Φ (.bl (decide (j ≤ i)))) : OD X (rI0 fun i j => .bl (decide (j ≤ i))) (.int i) (.int j) Φ := od_B0 (g := fun i j => decide (j ≤ i)) h
theorem od_eq {x y : D} (n m : Nat) (h1 : x.ok n = true) (h2 : y.ok m = true) (hn : n ≤ 64 ∧ m ≤ 64) (h : Φ (.bl (D.eqv x y))) : OD X (rEqD X.K) x y Φ := od_eqD (D.ok_pl h1) (D.ok_pl h2) (D.ok_shaped h1 hn.1) (D.ok_shaped h2 hn.2) h
theorem od_ne {x y : D} (n m : Nat) (h1 : x.ok n = true) (h2 : y.ok m = true) (hn : n ≤ 64 ∧ m ≤ 64) (h : Φ (.bl (!D.eqv x y))) : OD X (rNeD X.K) x y Φ := od_neD (D.ok_pl h1) (D.ok_pl h2) (D.ok_shaped h1 hn.1) (D.ok_shaped h2 hn.2) h
theorem od_eqII {i j : Int} (h : Φ (.bl (i == j))) : OD X (rEqD X.K) (.int i) (.int j) Φ := od_eq 0 0 (by simp [D.ok]) (by simp [D.ok]) (by omega) (by rw [eqv_ii]; exact h)
theorem od_neII {i j : Int} (h : Φ (.bl (!(i == j)))) : OD X (rNeD X.K) (.int i) (.int j) Φ := od_ne 0 0 (by simp [D.ok]) (by simp [D.ok]) (by omega) (by rw [eqv_ii]; exact h)
theorem isBl_of {Φb : Bool → Prop} {b : Bool} (h : Φb b) : isBl Φb (.bl b) := ⟨b, rfl, h⟩
end
end Fr
end
-- FrTxt
section
set_option Elab.async false
set_option linter.all false
set_option maxRecDepth 100000
/-! The text behind the top: what is known of it, a def by its name. -/
namespace Fr
open PySem PySem.Spec PyProof.Rows L2
structure Tx (K : PySem.W.Frag) (mg : Str → Option Value) (base : Heap) : Prop where
  d : He.SaysD fa fn K
  m : moreB K = true
  g : ∀ x u, PySem.W.nsIn K mainGlobals x = some u → mg x = u
  tb : ∀ p ∈ tf, LamX.TabB base mg (He.cT K p).1 (He.cT K p).2
section
variable {P : Program} {w : World} {K : PySem.W.Frag} {mg : Str → Option Value} {base : Heap}
theorem Tx.glo (T : Tx K mg base) {x : Str} (i : Nat) (h : fa[i]? = some (.glo x)) : mg x = some (.ref (He.ga K x)) := T.g _ _ (He.eqO_ok (T.d.fact i h))
theorem Tx.free (T : Tx K mg base) {x : Str} (i : Nat) (h : fa[i]? = some (.free x)) : mg x = none := T.g _ _ (He.eqO_ok (T.d.fact i h))
theorem fn_at {x : Str} {st : Stmt} (T : Tx K mg base) (i : Nat) (h : fn[i]? = some (dd x st)) : ∃ fd, FunD K x x (defArgs st) (defBody st) (defScope st) [] [] (He.ga K x) fd := T.d.def_ i h
theorem cal_of {x : Str} {st : Stmt} {N ps : List Str} {k : Nat} {sp : DSp} (T : Tx K mg base) (i : Nat) (hi : fn[i]? = some (dd x st)) (hj : fa[i]? = some (.glo x)) (S : FnScope N ps (defScope st))
    (b : ∀ (kV doc pm : Value) (an : Option Addr) (cdv ct : Value) (us : List Value), us.length = ps.length → bindArgs (PySem.W.fnOf x x (defArgs st) (defBody st) (defScope st) .none kV doc pm an cdv ct) ⟨us, []⟩ = pure (ps.zip us))
    (len : ∀ ds Φ Ψ, sp ds Φ Ψ → ds.length = ps.length)
    (hbody : ∀ (cdv : Value) (A : Around) (outer : List PySem.Env) (s : Shared) (H : Hp) (E : XK), cdv = .ref (He.cT K (x, none)).1 → Room k (A.deeper (envOfC x (defScope st) s.heap.objs.size (He.ga K x) cdv)) → ∀ ds Φ Ψ, sp ds Φ Ψ →
      DSs (bcx P w K mg base N x (defScope st) (He.ga K x) cdv A outer s H E) (defBody st) (startD N ds) { nx := fun _ => Φ .non, rt := Φ, ex := Ψ }) : Cal P w K mg base (k + 1) x sp := by
  obtain ⟨fd, F⟩ := fn_at T i hi
  refine ⟨He.ga K x, fd, ps, ?_, T.glo i hj, F.kp, F.bindsN b⟩
  obtain ⟨oc, od, dV, kV, doc, pm, an, cdv, ct, osl, rfl, lk, hcd, _, _⟩ := F.ex
  have ec : cdv = .ref (He.cT K (x, none)).1 := by
    obtain ⟨c, e⟩ := He.codeIn_ref hcd
    rw [e]
    exact congrArg Value.ref (He.codeOf_eq (p := (x, none)) lk e).symm
  refine fn_of lk hcd S (fun vs H Q E ⟨ds, Φ, Ψ, h1, _, h2, _⟩ => by rw [h1.length]; exact len ds Φ Ψ h2) fun A outer s H vs Q E hr hsp => ?_
  obtain ⟨ds, Φ, Ψ, hd, ht, hs, k1, k2⟩ := hsp
  exact ⟨tSs _ (defBody st), pss_S, hbody cdv A outer s H E ec hr ds Φ Ψ hs H _ H _ (fun cls d _ H => E cls d H) (takes_of rfl rfl rfl rfl) (start_ok ht hd)
    ⟨fun δ σ H' p s' => k1 _ _ H' p s'.kp .non, fun d v H' p kp hd => k1 d v H' p kp hd, fun _ _ _ p => p.elim, fun _ _ _ p => p.elim, fun c ds dx fs σ H' p kp e hf => k2 c ds dx fs H' p kp e hf⟩⟩
end
/-! ### the built-ins' names -/
section
variable {K : PySem.W.Frag} {mg : Str → Option Value} {base : Heap}
/-- the tables of the defs with generator expressions -/
theorem Tx.tab {x : Str} (T : Tx K mg base) (i : Nat) (h : (tf.take 7)[i]? = some (x, none)) : LamX.TabB base mg (He.cT K (x, none)).1 (He.cT K (x, none)).2 ∧ (He.cT K (x, none)).2 ∈ gtab K ∧ (He.cT K (x, none)).2 ≠ ltab K := by
  have hm := List.mem_of_getElem? h
  refine ⟨T.tb _ (List.mem_of_mem_take hm), List.mem_map.mpr ⟨_, hm, rfl⟩, ?_⟩
  have c := T.m
  unfold moreB at c
  exact of_decide_eq_true (List.all_eq_true.mp (Bool.and_eq_true_iff.mp c).2 _ hm)
theorem b_isinstance (T : Tx K mg base) : mg "isinstance" = none := T.free 58 rfl
theorem b_int (T : Tx K mg base) : mg "int" = none := T.free 59 rfl
theorem b_bool (T : Tx K mg base) : mg "bool" = none := T.free 60 rfl
theorem b_tuple (T : Tx K mg base) : mg "tuple" = none := T.free 61 rfl
theorem b_all (T : Tx K mg base) : mg "all" = none := T.free 62 rfl
theorem b_len (T : Tx K mg base) : mg "len" = none := T.free 63 rfl
theorem b_sum (T : Tx K mg base) : mg "sum" = none := T.free 64 rfl
theorem b_zip (T : Tx K mg base) : mg "zip" = none := T.free 65 rfl
theorem b_enumerate (T : Tx K mg base) : mg "enumerate" = none := T.free 66 rfl
theorem b_list (T : Tx K mg base) : mg "list" = none := T.free 67 rfl
theorem b_range (T : Tx K mg base) : mg "range" = none := T.free 68 rfl
theorem b_sorted (T : Tx K mg base) : mg "sorted" = none := T.free 69 rfl
theorem b_repr (T : Tx K mg base) : mg "repr" = none := T.free 70 rfl
theorem g_LONGEST (T : Tx K mg base) : ∃ t, mg "LONGEST" = some (.int 12 t) := by
  have c : (match PySem.W.nsIn K mainGlobals "LONGEST" with | some (some (.int j _)) => decide (j = 12) | _ => false) = true := T.d.fact 71 (f := .int "LONGEST" 12) rfl
  cases q : PySem.W.nsIn K mainGlobals "LONGEST" with
  | none => rw [q] at c; cases c
  | some u =>
    rw [q] at c
    cases u with
    | none => cases c
    | some v =>
      cases v with
      | int j t =>
        have z : j = 12 := of_decide_eq_true c
        subst z
        exact ⟨t, T.g _ _ q⟩
      | _ => cases c
end
end Fr
end
-- FrComp
section
set_option Elab.async false
set_option linter.all false
set_option maxRecDepth 100000
set_option maxHeartbeats 1000000
/-! List comprehensions over data. -/
namespace Fr
open PySem PySem.Spec PyProof.Rows L2
open ItX (dropH dropH_same dropH_ne dropH_upd)
/-! ### a list out of sight -/
section
variable {X : Cx} {pins : List (Addr × Obj)} {σ σ' : L2.St} {H H' : Hp} {s s' : Shared} {a : Addr} {xs : List V}
theorem list_at (I : Inv X pins σ H s) (h : H a = some (.lst xs)) : ∃ (its : List Value) (n : Nat), xs.length ≤ sizeLine ∧ Vals xs its ∧ s.heap.get? a = some (lstObj its.toArray n) := by
  obtain ⟨hz, its, n, rv, e⟩ := I.hok a _ h
  exact ⟨its, n, hz, rv, e⟩
theorem inv_hide (I : Inv X pins σ H s) (h : H a = some (.lst xs)) {o : Obj} (ho : s.heap.get? a = some o) (hc : ∀ v, o.data ≠ .cell v) : Inv X (pins ++ [(a, o)]) σ (dropH H a) s := by
  have other : ∀ b u, H b = some u → (∀ ys, u ≠ .lst ys) → dropH H a b = some u := fun b u e n => by
    rw [dropH_ne fun z => by
      rw [z, h] at e
      exact n xs (Option.some.inj e).symm]
    exact e
  have non : ∀ b, H b = Option.none → dropH H a b = Option.none := fun b e => by
    unfold dropH
    split
    · rfl
    · exact e
  have hok : HOk X.prog X.w (dropH H a) s.heap := fun b u e => by
    have hb : b ≠ a := fun z => by
      rw [z, dropH_same] at e
      cases e
    rw [dropH_ne hb] at e
    exact (I.hok b u e).stay (fun _ _ _ z => z) (fun c z => other c _ z fun _ w => (nomatch w)) fun c xs z => other c _ z fun _ w => (nomatch w)
  have J : Inv X pins σ (dropH H a) s := I.un (t' := s.toks) ⟨fun _ _ e _ _ _ => e, fun _ o e _ _ _ => ⟨o.slots, e⟩, fun b _ _ z _ => non b z, fun _ o e _ => ⟨o, e⟩, fun b xs z => other b _ z fun _ w => (nomatch w),
    fun b o x z => other b _ z fun _ w => (nomatch w), fun b ps z => ⟨#[], by rw [other b _ z fun _ w => (nomatch w)]; simp⟩⟩ hok
  refine J.pins_of fun p hp => ?_
  rcases List.mem_append.mp hp with hp | hp
  · exact J.pin p (List.mem_append_right _ hp)
  · rw [List.mem_singleton.mp hp]
    refine ⟨ho, dropH_same, fun z => ?_, fun z => ?_, hc⟩
    · have z : a = X.env.locals := z
      rw [z, I.free] at h
      cases h
    · obtain ⟨_, o, e, _⟩ := I.ok.funs.mem z
      have q := I.base.free a o e (I.ok.frf a z) fun w => I.ok.exfs a w z
      rw [q] at h
      cases h
theorem inv_back (I : Inv X pins σ H s) (h : H a = some (.lst xs)) {its : List Value} {n : Nat} (hz : xs.length ≤ sizeLine) (rv : Vals xs its) (J : Inv X (pins ++ [(a, lstObj its.toArray n)]) σ' H' s') : H' a = none ∧ Inv X pins σ' (upd H' a (.lst xs)) s' := by
  obtain ⟨q1, q2, q3, q4, q5⟩ := J.pin (a, lstObj its.toArray n) (List.mem_append_right _ (List.mem_append_right _ (List.mem_singleton.mpr rfl)))
  have q2 : H' a = none := q2
  have q1 : s'.heap.get? a = some (lstObj its.toArray n) := q1
  have ne : ∀ b u, H' b = some u → b ≠ a := fun b u e z => by
    rw [z, q2] at e
    cases e
  have up : ∀ b u, H' b = some u → upd H' a (.lst xs) b = some u := fun b u e => by
    rw [upd_ne (ne b u e)]
    exact e
  refine ⟨q2, J.ok, J.os, J.bare, ⟨J.base.keep, J.base.slot, fun b o e z hx => ?_, J.base.there, fun b ys e => up b _ (J.base.tups b ys e), fun b o u e => up b _ (J.base.frzs b o u e), fun b ps e => ?_⟩, J.loc, J.cell, ?_, fun x c e => ?_, fun p hp => ?_, fun b u e => ?_, J.len⟩
  · have hb : b ≠ a := fun w => by
      have q := I.base.free b o e z hx
      rw [w, h] at q
      cases q
    rw [upd_ne hb]
    exact J.base.free b o e z hx
  · obtain ⟨more, e1⟩ := J.base.tbls b ps e
    exact ⟨more, up b _ e1⟩
  · rw [upd_ne (Ne.symm q3)]
    exact J.free
  · have hc : c ≠ a := fun w => by
      obtain ⟨v, o, e1, e2⟩ := J.cell x c e
      rw [w, q1] at e1
      cases e1
      cases e2
    rw [upd_ne hc]
    exact J.freeC x c e
  · have hp' : p ∈ X.pn ++ (pins ++ [(a, lstObj its.toArray n)]) := by
      rcases List.mem_append.mp hp with z | z
      · exact List.mem_append_left _ z
      · exact List.mem_append_right _ (List.mem_append_left _ z)
    obtain ⟨p1, p2, p3⟩ := J.pin p hp'
    have hb : p.1 ≠ a := fun w => by
      have q := (I.pin p hp).2.1
      rw [w, h] at q
      cases q
    exact ⟨p1, by rw [upd_ne hb]; exact p2, p3⟩
  · by_cases hb : b = a
    · rw [hb, upd_same] at e
      cases e
      rw [hb]
      exact ⟨hz, its, n, rv, q1⟩
    · rw [upd_ne hb] at e
      exact (J.hok b u e).stay (fun _ _ _ z => z) (fun c z => up c _ z) fun c _ z => up c _ z
end
/-! ### what is walked -/
structure ItsF (K : PySem.W.Frag) (J : It) (H1 : Hp) (l : List D) : Prop where
  go : ∀ (j : Nat) y H, l[j]? = some y → Kp K H1 H → J.go j H
  fr : ∀ (j : Nat) y (H : Hp) (A : Addr) xs x H', l[j]? = some y → Kp K H1 H → H1 A = none → H A = none → J.yld j (upd H A (.lst xs)) x H' → ∃ H2, H' = upd H2 A (.lst xs) ∧ H2 A = none ∧ Kp K H H2 ∧ Dat K H2 x y
  stop : ∀ H, Kp K H1 H → J.stop l.length H
def DF (X : Cx) (tg iter : Expr) (δ : List Sl) (Φ : List D → Prop) : Prop := ∀ σ H (R : It → Hp → Prop), Ek X.K H σ δ → (∀ J H1 l, Φ l → Kp X.K H H1 → ItsF X.K J H1 l → R J H1) →
  ∀ (pins : List (Addr × Obj)) (s : Shared), Inv X pins σ H s → wpAny (model X.prog X.w) X.A (eval iter X.env) (fun v s1 => wpAny (model X.prog X.w) X.A (pyIter v) (PIE X pins σ tg R) X.xe s1) X.xe s
section
variable {X : Cx} {δ : List Sl} {e : Expr} {Φ : List D → Prop} {tg : Expr} {p pos : Pos}
theorem df_tup (h : DE X e δ fun d => ∃ l, d = .tup l ∧ Φ l) : DF X tg e δ Φ := fun σ H R en k pins s I => (pi_tup (tg := tg) pe_E).run pins s σ H R I (h σ H _ en fun d v H1 ⟨l, ed, p⟩ k1 d1 => by
  subst ed
  cases d1 with
  | @tup a xs _ hh hl => exact ⟨a, rfl, ⟨xs, hh⟩, k _ H1 l p k1 ⟨fun j y H' e kk => (let ⟨u, e1, _⟩ := hl.get e; ⟨xs, u, sqT_keep kk hh, e1⟩), fun j y H' A zs v H2 e kk hA hA' ⟨h1, h2⟩ => by
      subst h1
      obtain ⟨u, e1, e2⟩ := hl.get e
      have q := h2 xs (sqT_keep (kk.trans (Kp.new hA')) hh)
      rw [e1] at q
      cases q
      exact ⟨H', rfl, hA', Kp.refl _ _, e2.keep kk⟩, fun H' kk => ⟨xs, sqT_keep kk hh, by rw [hl.length]; exact Nat.le_refl _⟩⟩⟩)
theorem df_lst (h : DE X e δ fun d => ∃ l, d = .lst l ∧ Φ l) : DF X tg e δ Φ := fun σ H R en k pins s I => (pi_list (tg := tg) pe_E).run pins s σ H R I (h σ H _ en fun d v H1 ⟨l, ed, p⟩ k1 d1 => by
  subst ed
  cases d1 with
  | @lst a xs _ hh hl => exact ⟨a, rfl, ⟨xs, .of hh⟩, k _ H1 l p k1 ⟨fun j y H' e kk => (let ⟨u, e1, _⟩ := hl.get e; ⟨xs, u, .of (kk.st _ _ hh trivial), e1⟩), fun j y H' A zs v H2 e kk hA hA' ⟨h1, h2⟩ => by
      subst h1
      obtain ⟨u, e1, e2⟩ := hl.get e
      have q := h2 xs (.of ((kk.trans (Kp.new hA')).st _ _ hh trivial))
      rw [e1] at q
      cases q
      exact ⟨H', rfl, hA', Kp.refl _ _, e2.keep kk⟩, fun H' kk => ⟨xs, .of (kk.st _ _ hh trivial), by rw [hl.length]; exact Nat.le_refl _⟩⟩⟩)
theorem df_range {a : Expr} (hg : Gl X "range") (hm : X.mg "range" = none) (h : DE X a δ fun d => ∃ n : Nat, d = .int n ∧ n ≤ 1000000 ∧ Φ ((List.range n).map fun j : Nat => D.int (j : Int)))
    (he : starEach [a] X.env = [(false, eval a X.env)] := by rfl) : DF X tg (.Call (.Name "range" p) [a] [] pos) δ Φ := fun σ H R en k pins s I => (pi_range1 (tg := tg) hg hm (pa_cons pe_E pa_nil he) he).run pins s σ H R I (h σ H _ en fun d v H1 ⟨n, ed, hn, q⟩ k1 d1 => by
  subst ed
  cases d1
  refine ⟨(n : Int), rfl, by omega, by omega, ?_⟩
  rw [Int.toNat_natCast]
  refine k _ H1 _ q k1 ⟨fun j y H' e kk => ?_, fun j y H' A zs v H2 e kk hA hA' ⟨h1, h2⟩ => ?_, fun H' kk => ?_⟩
  · have hj := (List.getElem?_eq_some_iff.mp e).1
    rw [List.length_map, List.length_range] at hj
    exact hj
  · subst h1 h2
    have hj := (List.getElem?_eq_some_iff.mp e).1
    rw [List.length_map, List.length_range] at hj
    rw [List.getElem?_map, List.getElem?_range hj] at e
    cases e
    refine ⟨H', rfl, hA', Kp.refl _ _, ?_⟩
    rw [Int.zero_add]
    exact .int _
  · rw [List.length_map, List.length_range]
    exact Nat.le_refl _)
end
/-! ### the block's readings, the new list out of sight -/
abbrev bX (X : Cx) (s0 : Shared) (H0 : Hp) (scope : Scope) (C : Addr) (cl : List (Str × Addr)) (fp : List Addr) : Cx := X.blk s0 H0 scope (compEnvC scope cl C X.env) fp
def lE (X : Cx) (scope : Scope) (elt : Expr) : TE := fun σ H Q => ∃ (H2 : Hp) (A : Addr) (xs : List V), H = upd H2 A (.lst xs) ∧ H2 A = none ∧ ∀ (s0 : Shared) (H0 : Hp) (C : Addr) (cl : List (Str × Addr)) (fp : List Addr), tE (bX X s0 H0 scope C cl fp) elt σ H2 fun v H3 => H3 A = none → Q v (upd H3 A (.lst xs))
def tTs (X : Cx) (ifs : List Expr) : TT := fun σ H Q => ∀ (pins : List (Addr × Obj)) (s : Shared), Inv X pins σ H s →
  wpAny (model X.prog X.w) X.A (forIn ifs true fun c r => if r = true then do let ok ← isTrue c X.env (eval c X.env); pure (ForInStep.yield ok) else pure (ForInStep.yield r)) (TP X pins σ Q) X.xe s
def lT (X : Cx) (scope : Scope) (ifs : List Expr) : TT := fun σ H Q => ∃ (H2 : Hp) (A : Addr) (xs : List V), H = upd H2 A (.lst xs) ∧ H2 A = none ∧ ∀ (s0 : Shared) (H0 : Hp) (C : Addr) (cl : List (Str × Addr)) (fp : List Addr), tTs (bX X s0 H0 scope C cl fp) ifs σ H2 fun b H3 => H3 A = none → Q b (upd H3 A (.lst xs))
def tI (X : Cx) (tg iter : Expr) : TI := fun σ H R => ∀ (pins : List (Addr × Obj)) (s : Shared), Inv X pins σ H s → wpAny (model X.prog X.w) X.A (eval iter X.env) (fun v s1 => wpAny (model X.prog X.w) X.A (pyIter v) (PIE X pins σ tg R) X.xe s1) X.xe s
def lI (X : Cx) (scope : Scope) (tg iter : Expr) : TI := fun σ H R => ∃ (H2 : Hp) (A : Addr) (xs : List V), H = upd H2 A (.lst xs) ∧ H2 A = none ∧ ∀ (s0 : Shared) (H0 : Hp) (C : Addr) (cl : List (Str × Addr)) (fp : List Addr), tI (bX X s0 H0 scope C cl fp) tg iter σ H2 fun J H3 => H3 A = none → R J (upd H3 A (.lst xs))
section
variable {X : Cx} {scope : Scope} {elt : Expr} {ifs : List Expr} {s0 : Shared} {H0 : Hp} {C : Addr} {cl : List (Str × Addr)} {fp : List Addr}
theorem lst_no (v : Option Value) (its : List Value) (n : Nat) : (lstObj its.toArray n).data ≠ .cell v := fun z => by cases z
theorem pe_lE : PE (bX X s0 H0 scope C cl fp) elt (lE X scope elt) := ⟨fun pins s σ H Q I h => by
  obtain ⟨H2, A, xs, rfl, hA, h⟩ := h
  obtain ⟨its, n, hz, rv, e⟩ := list_at I upd_same
  have J := inv_hide I upd_same e fun v => lst_no v its n
  rw [dropH_upd hA] at J
  refine thn (h s0 H0 C cl fp _ s J) fun u s' ⟨v, H3, J', r, q⟩ => ?_
  obtain ⟨h3, J3⟩ := inv_back I upd_same hz rv J'
  exact ⟨v, _, J3, r, q h3⟩⟩
theorem pts_lT : PTs (bX X s0 H0 scope C cl fp) ifs (lT X scope ifs) := ⟨fun pins s σ H Q I h => by
  obtain ⟨H2, A, xs, rfl, hA, h⟩ := h
  obtain ⟨its, n, hz, rv, e⟩ := list_at I upd_same
  have J := inv_hide I upd_same e fun v => lst_no v its n
  rw [dropH_upd hA] at J
  refine thn (h s0 H0 C cl fp _ s J) fun b s' ⟨H3, J', q⟩ => ?_
  obtain ⟨h3, J3⟩ := inv_back I upd_same hz rv J'
  exact ⟨_, J3, q h3⟩⟩
theorem pi_lI {tg iter : Expr} : PI (bX X s0 H0 scope C cl fp) tg iter (lI X scope tg iter) := ⟨fun pins s σ H R I h => by
  obtain ⟨H2, A, xs, rfl, hA, h⟩ := h
  obtain ⟨its, n, hz, rv, e⟩ := list_at I upd_same
  have J := inv_hide I upd_same e fun v => lst_no v its n
  rw [dropH_upd hA] at J
  refine thn (h s0 H0 C cl fp _ s J) fun u s1 h1 => thn h1 fun itv s2 ⟨it, fp', tn, Jt, H3, e1, J', T, st, f, q⟩ => ?_
  obtain ⟨h3, J3⟩ := inv_back I upd_same hz rv J'
  refine ⟨it, fp', tn, Jt, _, e1, J3, T, st, fun b hb => ?_, q h3⟩
  obtain ⟨f0, f1, f2, f3, f4, f5⟩ := f b hb
  refine ⟨?_, f1, f2, f3, f4, fun p hp => f5 p ?_⟩
  · rw [upd_ne (Ne.symm (f5 (A, lstObj its.toArray n) (List.mem_append_right _ (List.mem_append_right _ (List.mem_singleton.mpr rfl)))))]
    exact f0
  · rcases List.mem_append.mp hp with z | z
    · exact List.mem_append_left _ z
    · exact List.mem_append_right _ (List.mem_append_left _ z)⟩
end
def DTs (X : Cx) (ifs : List Expr) (δ : List Sl) (Φ : Bool → Prop) : Prop := ∀ σ H Q, Ek X.K H σ δ → Kb X.K H Φ Q → tTs X ifs σ H Q
section
variable {X : Cx} {δ : List Sl} {Φ : D → Prop} {Φb : Bool → Prop} {c : Expr}
theorem dts_nil (h : Φb true) : DTs X [] δ Φb := fun σ H Q en k pins s I => wpAny_tests_nil ⟨H, I, k true H h (Kp.refl _ _)⟩
theorem dts_one (h : DT X c δ Φb) : DTs X [c] δ Φb := fun σ H Q en k pins s I => wpAny_tests_one (h σ H Q en k pins s I)
theorem pi_I {tg iter : Expr} : PI X tg iter (tI X tg iter) := ⟨fun pins s σ H R I h => h pins s I⟩
/-- [elt for x in iter if ..] -/
theorem de_lcIf (i : Nat) {x : Str} {xp pos : Pos} {elt iter : Expr} {ifs : List Expr} {scope : Scope} (hc : X.calm = true) (hN : X.N.Nodup) (hi : X.N[i]? = some x) (ok : BlkOk X.N X.env.scope scope [(x, i)]) (hx : Loc (relS scope X.env.scope) x)
    (hf : (scope.names.lookup x == some .cell) = true ∨ (relS scope X.env.scope).names.lookup x = some .local)
    (h : DF X (.Name x xp) iter δ fun l => l.length ≤ sizeLine ∧ ∃ Pd : Nat → List D → Prop, Pd 0 [] ∧ (∀ (j : Nat) y ds, l[j]? = some y → Pd j ds → ∀ (s0 : Shared) (H0 : Hp) (C : Addr) (cl : List (Str × Addr)) (fp : List Addr),
      DTs (bX X s0 H0 scope C cl fp) ifs (δ.set i (.v y)) fun b => (b = true → ∀ (s0 : Shared) (H0 : Hp) (C : Addr) (cl : List (Str × Addr)) (fp : List Addr), DE (bX X s0 H0 scope C cl fp) elt (δ.set i (.v y)) fun e => Pd (j + 1) (ds ++ [e])) ∧ (b = false → Pd (j + 1) ds)) ∧ ∀ ds, Pd l.length ds → Φ (.lst ds))
    (hs : ∀ x, foldedSetIterable iter X.env x = pure x := by intro _; rfl) : DE X (.ListComp elt [⟨.Name x xp, iter, ifs, 0⟩] scope pos) δ Φ :=
  .of (pe_lc (own := [(x, i)]) hc hN pi_I ok (fun s H C cl fp => pg_name (X := bX X s H scope C cl fp) hN hi hx hf) (fun s H C cl fp => pts_lT) (fun s H C cl fp => pe_lE) hs) fun σ H Q en k => h σ H _ en fun J H1 l ⟨hl, Pd, p0, ps, pe⟩ kp its A hA => by
    refine ⟨fun j m H' => m = l.length - j ∧ j ≤ l.length ∧ ∃ (H2 : Hp) (acc : List V) (ds : List D), H' = upd H2 A (.lst acc) ∧ H2 A = none ∧ Kp X.K H1 H2 ∧ DatL X.K H2 acc ds ∧ ds.length ≤ j ∧ Pd j ds, ⟨_, rfl, Nat.zero_le _, H1, [], [], rfl, hA, Kp.refl _ _, .nil, Nat.le_refl _, p0⟩, ?_⟩
    rintro j m H' ⟨rfl, hj, H2, acc, ds, rfl, h2, k2, dl, dn, pd⟩
    have kn : Kp X.K H2 (upd H2 A (.lst acc)) := Kp.new h2
    by_cases hlt : j < l.length
    · have hy : l[j]? = some l[j] := List.getElem?_eq_getElem hlt
      generalize l[j] = y at hy
      refine .inr ⟨its.go j y _ hy (k2.trans kn), fun H' => ∃ (H2 : Hp) (acc : List V) (ds : List D), H' = upd H2 A (.lst acc) ∧ H2 A = none ∧ Kp X.K H1 H2 ∧ DatL X.K H2 acc ds ∧ ds.length ≤ j + 1 ∧ Pd (j + 1) ds, fun H' hn => ⟨_, by omega, rfl, hlt, hn⟩, fun v H' hv => ?_⟩
      obtain ⟨H3, rfl, h3, k3, dv⟩ := its.fr j y H2 A acc v H' hy k2 hA h2 hv
      have en3 : Ek X.K H3 (σ.set i (some v)) (δ.set i (.v y)) := ((((en.keep kp).keep k2).keep k3).set i dv)
      have e1 : (wipe σ [i]).set i (some v) = σ.set i (some v) := by
        show (σ.set i none).set i (some v) = _
        rw [List.set_set]
      rw [← e1] at en3
      refine ⟨by show ((σ.set i none).set i (some v)).set i none = σ.set i none; rw [List.set_set, List.set_set], H3, A, acc, rfl, h3, fun s0 H0 C cl fp => ps j y ds hy pd s0 H0 C cl fp _ H3 _ en3 fun b H4 ⟨q1, q2⟩ k4 h4 => ?_⟩
      cases b with
      | false => exact ⟨H4, acc, ds, rfl, h4, (k2.trans k3).trans k4, (dl.keep k3).keep k4, by omega, q2 rfl⟩
      | true =>
        refine ⟨H4, A, acc, rfl, h4, fun s0 H0 C cl fp => q1 rfl s0 H0 C cl fp _ H4 _ (en3.keep k4) fun d u H5 p5 k5 d5 h5 => ⟨acc, upd_same, ?_, H5, acc ++ [u], ds ++ [d], upd_upd, h5, ((k2.trans k3).trans k4).trans k5, (((dl.keep k3).keep k4).keep k5).append (.cons d5 .nil), ?_, p5⟩⟩
        · rw [dl.length]
          omega
        · rw [List.length_append, List.length_singleton]
          omega
    · have e : j = l.length := by omega
      subst e
      exact .inl ⟨its.stop _ (k2.trans kn), k (.lst ds) _ _ (pe ds pd) ((kp.trans k2).trans kn) (.lst upd_same (dl.keep kn))⟩
/-- [elt for x in iter] -/
theorem de_lc (i : Nat) {x : Str} {xp pos : Pos} {elt iter : Expr} {scope : Scope} (hc : X.calm = true) (hN : X.N.Nodup) (hi : X.N[i]? = some x) (ok : BlkOk X.N X.env.scope scope [(x, i)]) (hx : Loc (relS scope X.env.scope) x)
    (hf : (scope.names.lookup x == some .cell) = true ∨ (relS scope X.env.scope).names.lookup x = some .local)
    (h : DF X (.Name x xp) iter δ fun l => l.length ≤ sizeLine ∧ ∃ Pd : Nat → List D → Prop, Pd 0 [] ∧ (∀ (j : Nat) y ds, l[j]? = some y → Pd j ds → ∀ (s0 : Shared) (H0 : Hp) (C : Addr) (cl : List (Str × Addr)) (fp : List Addr),
      DE (bX X s0 H0 scope C cl fp) elt (δ.set i (.v y)) fun e => Pd (j + 1) (ds ++ [e])) ∧ ∀ ds, Pd l.length ds → Φ (.lst ds))
    (hs : ∀ x, foldedSetIterable iter X.env x = pure x := by intro _; rfl) : DE X (.ListComp elt [⟨.Name x xp, iter, [], 0⟩] scope pos) δ Φ :=
  de_lcIf i hc hN hi ok hx hf (fun σ H R en k => h σ H R en fun J H1 l ⟨hl, Pd, p0, ps, pe⟩ => k J H1 l ⟨hl, Pd, p0, fun j y ds hy pd s0 H0 C cl fp => dts_nil ⟨fun _ s0 H0 C cl fp => ps j y ds hy pd s0 H0 C cl fp, fun z => (by cases z)⟩, pe⟩) hs
/-- [elt for x in iter for x1 in iter1] -/
theorem de_lc2 (i i1 : Nat) {x x1 : Str} {xp xp1 pos : Pos} {elt iter iter1 : Expr} {scope : Scope} (hc : X.calm = true) (hN : X.N.Nodup) (hi : X.N[i]? = some x) (hi1 : X.N[i1]? = some x1) (hne : i ≠ i1) (ok : BlkOk X.N X.env.scope scope [(x, i), (x1, i1)]) (hx : Loc (relS scope X.env.scope) x) (hx1 : Loc (relS scope X.env.scope) x1)
    (hf : (scope.names.lookup x == some .cell) = true ∨ (relS scope X.env.scope).names.lookup x = some .local) (hf1 : (scope.names.lookup x1 == some .cell) = true ∨ (relS scope X.env.scope).names.lookup x1 = some .local)
    (h : DF X (.Name x xp) iter δ fun l => ∃ Pd : Nat → List D → Prop, Pd 0 [] ∧ (∀ (j : Nat) y ds, l[j]? = some y → Pd j ds → ∀ (s0 : Shared) (H0 : Hp) (C : Addr) (cl : List (Str × Addr)) (fp : List Addr),
      DF (bX X s0 H0 scope C cl fp) (.Name x1 xp1) iter1 ((δ.set i1 .no).set i (.v y)) fun l1 => ∃ Pd1 : Nat → List D → Prop, Pd1 0 ds ∧ (∀ (j1 : Nat) y1 ds1, l1[j1]? = some y1 → Pd1 j1 ds1 → ∀ (s0 : Shared) (H0 : Hp) (C : Addr) (cl : List (Str × Addr)) (fp : List Addr),
        DE (bX X s0 H0 scope C cl fp) elt (((δ.set i1 .no).set i (.v y)).set i1 (.v y1)) fun e => ds1.length < sizeLine ∧ Pd1 (j1 + 1) (ds1 ++ [e])) ∧ ∀ ds1, Pd1 l1.length ds1 → Pd (j + 1) ds1) ∧ ∀ ds, Pd l.length ds → Φ (.lst ds))
    (hs : ∀ x, foldedSetIterable iter X.env x = pure x := by intro _; rfl) (hs1 : ∀ env x, foldedSetIterable iter1 env x = pure x := by intro _ _; rfl) : DE X (.ListComp elt [⟨.Name x xp, iter, [], 0⟩, ⟨.Name x1 xp1, iter1, [], 0⟩] scope pos) δ Φ :=
  .of (pe_lc2 (own := [(x, i), (x1, i1)]) (vs1 := [i1]) hc hN pi_I ok (by simp) (fun s H C cl fp => pg_name (X := bX X s H scope C cl fp) hN hi hx hf) (fun s H C cl fp => pts_nil) (fun s H C cl fp => pi_lI) (fun s H C cl fp => pg_name (X := bX X s H scope C cl fp) hN hi1 hx1 hf1) (fun s H C cl fp => pts_nil) (fun s H C cl fp => pe_lE) hs hs1) fun σ H Q en k => h σ H _ en fun J H1 l ⟨Pd, p0, ps, pe⟩ kp its A hA => by
    have setc : ∀ {α : Type} (l : List α) (a b : α), (l.set i a).set i1 b = (l.set i1 b).set i a := fun l a b => List.set_comm a b hne
    refine ⟨fun j m H' => m = l.length - j ∧ j ≤ l.length ∧ ∃ (H2 : Hp) (acc : List V) (ds : List D), H' = upd H2 A (.lst acc) ∧ H2 A = none ∧ Kp X.K H1 H2 ∧ DatL X.K H2 acc ds ∧ Pd j ds, ⟨_, rfl, Nat.zero_le _, H1, [], [], rfl, hA, Kp.refl _ _, .nil, p0⟩, ?_⟩
    rintro j m H' ⟨rfl, hj, H2, acc, ds, rfl, h2, k2, dl, pd⟩
    have kn : Kp X.K H2 (upd H2 A (.lst acc)) := Kp.new h2
    by_cases hlt : j < l.length
    · have hy : l[j]? = some l[j] := List.getElem?_eq_getElem hlt
      generalize l[j] = y at hy
      refine .inr ⟨its.go j y _ hy (k2.trans kn), fun H' => ∃ (H2 : Hp) (acc : List V) (ds : List D), H' = upd H2 A (.lst acc) ∧ H2 A = none ∧ Kp X.K H1 H2 ∧ DatL X.K H2 acc ds ∧ Pd (j + 1) ds, fun H' hn => ⟨_, by omega, rfl, hlt, hn⟩, fun v H' hv => ?_⟩
      obtain ⟨H3, rfl, h3, k3, dv⟩ := its.fr j y H2 A acc v H' hy k2 hA h2 hv
      have en3 : Ek X.K H3 (((σ.set i1 none).set i none).set i (some v)) ((δ.set i1 .no).set i (.v y)) := by
        rw [List.set_set]
        exact ((((en.keep kp).keep k2).keep k3).put i1 (s := .no) trivial).set i dv
      refine ⟨by show ((((σ.set i1 none).set i none).set i (some v)).set i1 none).set i none = (σ.set i1 none).set i none; rw [List.set_set, setc, List.set_set, List.set_set], ?_⟩
      unfold tYes
      simp only [if_true]
      refine ⟨H3, A, acc, rfl, h3, fun s0 H0 C cl fp => ps j y ds hy pd s0 H0 C cl fp _ H3 _ en3 fun J1 H4 l1 ⟨Pd1, q0, qs, qe⟩ k4 its1 h4 => ?_⟩
      refine ⟨fun j1 m1 H' => m1 = l1.length - j1 ∧ j1 ≤ l1.length ∧ ∃ (H2 : Hp) (acc : List V) (ds : List D), H' = upd H2 A (.lst acc) ∧ H2 A = none ∧ Kp X.K H4 H2 ∧ DatL X.K H2 acc ds ∧ Pd1 j1 ds, ⟨_, rfl, Nat.zero_le _, H4, acc, ds, rfl, h4, Kp.refl _ _, (dl.keep k3).keep k4, q0⟩, ?_⟩
      rintro j1 m1 H' ⟨rfl, hj1, H5, acc5, ds5, rfl, h5, k5, dl5, pd5⟩
      have kn5 : Kp X.K H5 (upd H5 A (.lst acc5)) := Kp.new h5
      by_cases hlt1 : j1 < l1.length
      · have hy1 : l1[j1]? = some l1[j1] := List.getElem?_eq_getElem hlt1
        generalize l1[j1] = y1 at hy1
        refine .inr ⟨its1.go j1 y1 _ hy1 (k5.trans kn5), fun H' => ∃ (H2 : Hp) (acc : List V) (ds : List D), H' = upd H2 A (.lst acc) ∧ H2 A = none ∧ Kp X.K H4 H2 ∧ DatL X.K H2 acc ds ∧ Pd1 (j1 + 1) ds, fun H' hn => ⟨_, by omega, rfl, hlt1, hn⟩, fun v1 H' hv1 => ?_⟩
        obtain ⟨H6, rfl, h6, k6, dv1⟩ := its1.fr j1 y1 H5 A acc5 v1 H' hy1 k5 h4 h5 hv1
        have en6 : Ek X.K H6 (((((σ.set i1 none).set i none).set i (some v)).set i1 none).set i1 (some v1)) (((δ.set i1 .no).set i (.v y)).set i1 (.v y1)) := by
          rw [List.set_set (a := none)]
          exact (((en3.keep k4).keep k5).keep k6).set i1 dv1
        refine ⟨by show (((((σ.set i1 none).set i none).set i (some v)).set i1 none).set i1 (some v1)).set i1 none = ((((σ.set i1 none).set i none).set i (some v)).set i1 none); rw [List.set_set, List.set_set], ?_⟩
        refine ⟨H6, A, acc5, rfl, h6, fun s0 H0 C cl fp => qs j1 y1 ds5 hy1 pd5 s0 H0 C cl fp _ H6 _ en6 fun d u H7 ⟨z7, p7⟩ k7 d7 h7 => ⟨acc5, upd_same, ?_, H7, acc5 ++ [u], ds5 ++ [d], upd_upd, h7, (k5.trans k6).trans k7, ((dl5.keep k6).keep k7).append (.cons d7 .nil), p7⟩⟩
        rw [dl5.length]
        exact z7
      · have e : j1 = l1.length := by omega
        subst e
        exact .inl ⟨its1.stop _ (k5.trans kn5), H5, acc5, ds5, rfl, h5, ((k2.trans k3).trans k4).trans k5, dl5, qe ds5 pd5⟩
    · have e : j = l.length := by omega
      subst e
      exact .inl ⟨its.stop _ (k2.trans kn), k (.lst ds) _ _ (pe ds pd) ((kp.trans k2).trans kn) (.lst upd_same (dl.keep kn))⟩
end
end Fr
end
-- FrGen
section
set_option Elab.async false
set_option linter.all false
set_option maxRecDepth 100000
set_option maxHeartbeats 1000000
/-! Generator expressions whose elements call defs: the block's context, its loop, what stands between two turns. -/
namespace Fr
open PySem PySem.Spec PyProof.Rows L2
/-! ### the block's context -/
abbrev gEnv (X : Cx) (scope : Scope) (C : Addr) (code : Value) : PySem.Env := genEnv scope (cloFrom X.env.cells scope.names []) C code builtinsNs X.env
abbrev gCx (X : Cx) (A : Around) (Ng : List Str) (s : Shared) (H : Hp) (fp : List Addr) (scope : Scope) (C : Addr) (code : Value) : Cx :=
  { X with A := A, N := Ng, s_0 := s, H_0 := H, env := gEnv X scope C code, outer := X.stack, stack := gEnv X scope C code :: X.stack, ex := fp, fn := fun _ => false, calm := true, pn := [], xe := fun _ _ => False }
/-- the scopes fit: the block's names Ng, the captured ones with their places in N -/
structure GenB (N Ng : List Str) (sc scope : Scope) (cap : List (Option Nat)) : Prop where
  kind : scope.kind = .function
  co : scope.isCoroutine = false
  cell : ∀ y ∈ scope.names, y.2 ≠ .cell
  dot : scope.names.lookup (".0" : Str) = some NameKind.local
  uniq : ∀ y ∈ scope.names, scope.names.lookup y.1 = some y.2
  free : ∀ y ∈ scope.names, y.2 = .free → sc.names.lookup y.1 = some .cell ∨ sc.names.lookup y.1 = some .free
  len : cap.length = Ng.length
  cap : (cap.zip Ng).all (fun p => match p.1 with | none => true | some j => decide (N[j]? = some p.2) && decide (scope.names.lookup p.2 = some .free)) = true
def capS (σ : L2.St) (cap : List (Option Nat)) : L2.St := cap.map fun o => match o with
  | none => none
  | some j => (σ[j]?).join
def capD1 : Sl → Sl
  | .v d => .v d
  | .b d => .v d
  | _ => .no
def capO (δ : List Sl) : Option Nat → Sl
  | none => .no
  | some j => ((δ[j]?).map capD1).getD .no
def capD (δ : List Sl) (cap : List (Option Nat)) : List Sl := cap.map (capO δ)
theorem Ek.cap {K : PySem.W.Frag} {H : Hp} {σ : L2.St} {δ : List Sl} (h : Ek K H σ δ) (cap : List (Option Nat)) : Ek K H (capS σ cap) (capD δ cap) := by
  refine ⟨h.1, by unfold capS capD; rw [List.length_map, List.length_map], fun i s e => ?_⟩
  unfold capD at e
  unfold capS
  rw [List.getElem?_map] at e ⊢
  cases q : cap[i]? with
  | none =>
    rw [q] at e
    cases e
  | some o =>
    rw [q] at e
    cases o with
    | none =>
      cases e
      exact ⟨none, rfl, trivial⟩
    | some j =>
      have e : some (((δ[j]?).map capD1).getD .no) = some s := e
      cases q2 : δ[j]? with
      | none =>
        rw [q2] at e
        cases e
        exact ⟨_, rfl, trivial⟩
      | some z =>
        obtain ⟨o', e1, e2⟩ := h.2.2 j z q2
        rw [q2] at e
        cases e
        refine ⟨o', ?_, ?_⟩
        · show some (σ[j]?).join = some o'
          rw [e1]
          rfl
        · cases z with
          | v d => exact e2
          | b d => exact e2
          | _ => exact trivial
section
variable {X : Cx} {pins : List (Addr × Obj)} {σ : L2.St} {H : Hp} {s2 s5 : Shared}
theorem clo_at {env : PySem.Env} {names : List (Str × NameKind)} (hf : ∀ y ∈ names, y.2 = .free → ∃ c, env.cells.lookup y.1 = some c) {y : Str} {c : Addr} (e : (cloFrom env.cells names []).lookup y = some c) : env.cells.lookup y = some c ∧ (y, NameKind.free) ∈ names := by
  rcases cloFrom_mem (PySem.mem_of_lookup e) with hm | ⟨h1, h2⟩
  · cases hm
  · obtain ⟨c', hc⟩ := hf _ h1 rfl
    rw [hc] at h2
    subst h2
    exact ⟨hc, h1⟩
theorem gen_start {A : Around} {Ng : List Str} {cap : List (Option Nat)} {scope : Scope} {C P : Addr} {code : Value} {fp : List Addr} {ps more : Array Value} (I : Inv X pins σ H s2) (B : GenB X.N Ng X.env.scope scope cap)
    (hA : A.handled = none) (hfr : A.frames = some (gEnv X scope C code :: X.stack)) (hfp : ∀ b ∈ fp, FpOk X pins H b ∧ b < s2.heap.objs.size) (hP : H P = some (.tbl ps)) (hC : s2.heap.objs.size ≤ C) (hns : ∃ m, s5.heap.Ns C m) (ho : s5.os = s2.os) (hb : AllBare s5.gens)
    (k : ∀ b o, b ≠ P → s2.heap.get? b = some o → s5.heap.get? b = some o) (hm : s5.heap.get? P = some { cls := .none, data := .fields (ps ++ more) }) :
    Inv (gCx X A Ng s2 H fp scope C code) [] (capS σ cap) (upd H P (.tbl (ps ++ more))) s5 := by
  have hfree : ∀ y ∈ scope.names, y.2 = .free → ∃ c, X.env.cells.lookup y.1 = some c := fun y hy e => (B.free y hy e).elim (fun z => I.ok.has _ (.inl z)) fun z => I.ok.has _ (.inr z)
  have J : Inv X pins σ (upd H P (.tbl (ps ++ more))) s5 := by
    have q := GxR.inv_tab (more := more) (h' := s5.heap) (g' := s5.gens) (d' := s5.drawn) (t' := s5.toks) I hP k hm hb
    rw [GxR.sh_eta _ _ ho] at q
    exact q
  have cm : ∀ {y c}, (gEnv X scope C code).cells.lookup y = some c → X.env.cells.lookup y = some c ∧ (y, NameKind.free) ∈ scope.names := fun e => clo_at hfree e
  have clt : ∀ {y c}, X.env.cells.lookup y = some c → c < s2.heap.objs.size := fun e => (let ⟨_, z⟩ := I.cell _ _ e; z.lt)
  have nP : ∀ b, H b = none → b ≠ P := fun b e z => by
    rw [z, hP] at e
    cases e
  have nT : ∀ b u, H b = some u → (∀ q, u ≠ .tbl q) → b ≠ P := fun b u e q z => by
    rw [z, hP] at e
    exact q ps (Option.some.inj e).symm
  have noC : ∀ x, scope.names.lookup x ≠ some .cell := fun x e => B.cell _ (PySem.mem_of_lookup e) rfl
  refine ⟨⟨I.ok.mod, B.kind, I.ok.glob, rfl, hC, fun x y c e1 e2 => I.ok.inj x y c (cm e1).1 (cm e2).1, fun x hx => ?_, fun x c z => absurd z Bool.false_ne_true, fun _ => hA, hfr, .inr ⟨rfl, rfl⟩, fun b hb => ⟨?_, fun x c e z => ?_⟩, I.bs, Nat.le_trans I.ok.bsz I.sz, fun b o e hb => ?_, fun b hb z => ?_, I.stack, I.stkFree⟩,
    ho, hb, ⟨fun b o e n _ _ => k b o (nP b n) e, fun b o e n _ _ => ⟨o.slots, k b o (nP b n) e⟩, fun b o e n _ => ?_, fun b o e _ => ?_, fun b xs e => ?_, fun b o u e => ?_, fun b qs e => ?_⟩, ?_, fun x c e => ?_, ?_, fun x c e => ?_, fun p hp => ?_, J.hok, ?_⟩
  · rcases hx with hx | hx
    · exact absurd hx (noC x)
    · exact mem_lookup (cloFrom_has (cells := X.env.cells) (acc := []) (PySem.mem_of_lookup hx))
  · exact Nat.ne_of_lt (Nat.lt_of_lt_of_le (hfp b hb).2 hC)
  · exact (hfp b hb).1.2.2.2.2.1 x c (cm e).1 z
  · rcases (hfp b hb).1.2.2.2.1 with z | z
    · exact I.ok.noex b o e z
    · exact absurd (Nat.lt_of_lt_of_le (Heap.lt_size e) (Nat.le_trans I.ok.bsz z)) (Nat.lt_irrefl _)
  · rcases List.mem_cons.mp (I.stkSub b z) with z | z
    · exact (hfp b hb).1.2.1 z
    · exact (hfp b hb).1.2.2.1 z
  · rw [upd_ne (nP b n)]
    exact n
  · by_cases hq : b = P
    · rw [hq]
      exact ⟨_, hm⟩
    · exact ⟨o, k b o hq e⟩
  · rw [upd_ne (nT b _ e fun q z => by cases z)]
    exact e
  · rw [upd_ne (nT b _ e fun q z => by cases z)]
    exact e
  · have e : H b = some (.tbl qs) := e
    by_cases hq : b = P
    · rw [hq, hP] at e
      cases e
      rw [hq, upd_same]
      exact ⟨more, rfl⟩
    · rw [upd_ne hq, e]
      exact ⟨#[], by simp⟩
  · obtain ⟨m, hm⟩ := hns
    refine ⟨m, hm, fun i x v e1 e2 _ => ?_⟩
    unfold capS at e2
    rw [List.getElem?_map] at e2
    cases q : cap[i]? with
    | none =>
      rw [q] at e2
      cases e2
    | some o =>
      rw [q] at e2
      cases o with
      | none => cases e2
      | some j =>
        have e3 : (σ[j]?).join = some v := Option.some.inj e2
        have e4 : σ[j]? = some (some v) := by
          cases q4 : σ[j]? with
          | none =>
            rw [q4] at e3
            cases e3
          | some z =>
            rw [q4] at e3
            rw [show z = some v from e3]
        have hz : (some j, x) ∈ cap.zip Ng := List.mem_of_getElem? (i := i) (by rw [List.getElem?_zip_eq_some]; exact ⟨q, e1⟩)
        have c := List.all_eq_true.mp B.cap _ hz
        have c : (decide (X.N[j]? = some x) && decide (scope.names.lookup x = some .free)) = true := c
        rw [Bool.and_eq_true, decide_eq_true_iff, decide_eq_true_iff] at c
        obtain ⟨c1, c2⟩ := c
        have hmem := PySem.mem_of_lookup c2
        have hv := B.free _ hmem rfl
        obtain ⟨m0, _, hl⟩ := I.loc
        obtain ⟨u, r, lk⟩ := hl j x v c1 e4 (hv.elim (fun z => .inr (.inl z)) fun z => .inr (.inr z))
        refine ⟨u, r, .inr ⟨.inr c2, ?_⟩⟩
        rcases lk with ⟨z, _⟩ | ⟨_, c0, e0, hc0⟩
        · have z : X.env.scope.names.lookup x = some .local := z
          rcases hv with hv | hv
          · rw [show X.env.scope.names.lookup x = _ from hv] at z
            cases z
          · rw [show X.env.scope.names.lookup x = _ from hv] at z
            cases z
        · obtain ⟨c', e'⟩ := mem_lookup (cloFrom_has (cells := X.env.cells) (acc := []) hmem)
          have e9 : (gEnv X scope C code).cells.lookup x = some c' := e'
          have e8 := (cm e9).1
          rw [e0] at e8
          cases e8
          obtain ⟨o, h1, h2⟩ := hc0
          exact ⟨c0, e9, o, k c0 o (nP c0 (I.freeC x c0 e0)) h1, h2⟩
  · obtain ⟨w, o, h1, h2⟩ := I.cell x c (cm e).1
    exact ⟨w, o, k c o (nP c (I.freeC x c (cm e).1)) h1, h2⟩
  · show upd H P (.tbl (ps ++ more)) C = none
    have n := I.hok.fresh hC
    rw [upd_ne (nP C n)]
    exact n
  · have n := I.freeC x c (cm e).1
    rw [upd_ne (nP c n)]
    exact n
  · cases hp
  · show (capS σ cap).length = Ng.length
    unfold capS
    rw [List.length_map]
    exact B.len
end
/-- a def's table has grown -/
theorem Kp.tab {K : PySem.W.Frag} {H : Hp} {P : Addr} {ps qs : Array Value} (hP : H P = some (.tbl ps)) (ht : TriplesOk qs.toList) (hl : P ≠ ltab K) : Kp K H (upd H P (.tbl qs)) := by
  have nT : ∀ b u, H b = some u → (∀ q, u ≠ .tbl q) → b ≠ P := fun b u e q z => by
    rw [z, hP] at e
    exact q ps (Option.some.inj e).symm
  refine ⟨fun p o e s => ?_, fun a l ⟨cs, at_, g, lf, sd, tn, h1, h2, h3⟩ => ⟨cs, at_, g, lf, sd, tn, ?_, ?_, h3⟩, fun ⟨t1, qs', e1, e2, e3⟩ => ⟨fun Q hQ => ?_, qs', ?_, e2, fun pos cv hc => ?_⟩, fun p e => ?_⟩
  · rw [upd_ne (nT p o e fun q z => by rw [z] at s; exact s)]
    exact e
  · rw [upd_ne (nT _ _ h1 fun q z => by cases z)]
    exact h1
  · rw [upd_ne (nT _ _ h2 fun q z => by cases z)]
    exact h2
  · by_cases h : Q = P
    · rw [h]
      exact ⟨qs, upd_same, ht⟩
    · obtain ⟨r, h1, h2⟩ := t1 Q hQ
      exact ⟨r, by rw [upd_ne h]; exact h1, h2⟩
  · rw [upd_ne (Ne.symm hl)]
    exact e1
  · obtain ⟨c, z1, z2⟩ := e3 pos cv hc
    exact ⟨c, z1, by rw [upd_ne (nT _ _ z2 fun q z => LamX.codeO_ne q z)]; exact z2⟩
  · by_cases h : p = P
    · rw [h, upd_same] at e
      cases e
    · rw [upd_ne h] at e
      exact e
end Fr
end
-- FrLoop
section
set_option Elab.async false
set_option linter.all false
set_option maxRecDepth 100000
set_option maxHeartbeats 1000000
/-! The loop of a generator expression's block, as it is woken. -/
namespace Fr
open PySem PySem.Spec PyProof.Rows L2
/-- a generator expression at work: X its block's context, H1 the heap at its making, δ the block's names between two turns, es what it hands out, a its object, PN what its consumer holds (by what has come out) -/
structure GD where
  X : Cx
  H1 : Hp
  elt : Expr
  tg : Expr
  iter : Expr
  scope : Scope
  pos : Pos
  it : Addr
  fp : List Addr
  tn : Nat → Heap → Prop
  J : It
  δ : List Sl
  es : List D
  a : Addr
  go : Obj
  PN : List Value → List (Addr × Obj) → Prop
abbrev GD.loopC (G : GD) : Code := .compLoop (.GeneratorExp G.elt [⟨G.tg, G.iter, [], 0⟩] G.scope G.pos) 0 (.ref G.it) .none G.X.env
abbrev GD.startC (G : GD) : Code := .compStart (.GeneratorExp G.elt [⟨G.tg, G.iter, [], 0⟩] G.scope G.pos) 0 (.ref G.it) .none G.X.env
/-- the state: us has come out to the consumer, us' out of the block -/
def GD.I (G : GD) (us us' : List Value) (s : Shared) : Prop :=
  ∃ pn σ H vs, G.PN us pn ∧ Inv G.X ((G.a, G.go) :: pn) σ H s ∧ Kp G.X.K G.H1 H ∧ Ek G.X.K H σ G.δ ∧ G.tn us'.length s.heap ∧ (∀ b ∈ G.fp, H b = none) ∧ Vals vs us' ∧ DatL G.X.K H vs (G.es.take us'.length)
structure GD.Ok (G : GD) (A : Around) : Prop where
  turn : Turn G.X.prog G.X.w G.X.K G.tg G.J G.fp G.it G.tn
  calm : G.X.calm = true
  ex : G.X.ex = G.fp
  pn0 : G.X.pn = []
  afp : G.a ∉ G.fp
  pfp : ∀ us pn, G.PN us pn → ∀ p ∈ pn, p.1 ∉ G.fp
  over : A.over G.loopC [] = G.X.A
  co : G.X.env.scope.isCoroutine = false
  body : ∀ (j : Nat) (e : D) (σ : L2.St) (H : Hp), G.es[j]? = some e → Kp G.X.K G.H1 H → Ek G.X.K H σ G.δ → G.J.go j H ∧ ∀ (x : V) (H' : Hp) (pins : List (Addr × Obj)) (s : Shared) (u : Value), G.J.yld j H x H' → Inv G.X pins σ H' s → RelV x u →
    wpAny (model G.X.prog G.X.w) G.X.A (assign G.tg G.X.env u) (fun _ s1 => wpAny (model G.X.prog G.X.w) G.X.A (eval G.elt G.X.env) (fun v s2 => ∃ y σ2 H2, Inv G.X pins σ2 H2 s2 ∧ RelV y v ∧ Dat G.X.K H2 y e ∧ Kp G.X.K H H2 ∧ Ek G.X.K H2 σ2 G.δ) (fun _ _ => False) s1) (fun _ _ => False) s
  stop : ∀ H, Kp G.X.K G.H1 H → G.J.stop G.es.length H
/-- an item has come: n turns are left -/
def GD.Y (G : GD) : Protocol := fun m s₀ v s kap => ∃ us, m + us.length = G.es.length ∧ G.I us (us ++ [v]) s ∧ ∀ s', G.I (us ++ [v]) (us ++ [v]) s' → kap (.send .none) s'
/-- all has come out -/
def GD.F (G : GD) (us : List Value) (s : Shared) : Prop := ∃ pn σ H vs, G.PN us pn ∧ Inv G.X ((G.a, G.go) :: pn) σ H s ∧ Kp G.X.K G.H1 H ∧ Vals vs us ∧ DatL G.X.K H vs G.es
def GD.P (G : GD) (n : Nat) (s₀ s : Shared) : Prop := n = 1 ∧ ∃ us, us.length = G.es.length ∧ G.F us s
def GD.R (G : GD) : GenEnd := fun n s₀ r s => r = .ok .next ∧ G.P n s₀ s
section
variable {G : GD} {A : Around}
theorem GD.Ok.fps (ok : G.Ok A) {us : List Value} {pn : List (Addr × Obj)} {σ : L2.St} {H : Hp} {s : Shared} (hp : G.PN us pn) (I : Inv G.X ((G.a, G.go) :: pn) σ H s) (nf : ∀ b ∈ G.fp, H b = none) : ∀ b ∈ G.fp, FpOk G.X ((G.a, G.go) :: pn) H b := fun b hb => by
  have hx : b ∈ G.X.ex := by rw [ok.ex]; exact hb
  refine ⟨nf b hb, (I.ok.exf b hx).1, I.ok.exfs b hx, .inl hx, fun x c e => (I.ok.exf b hx).2 x c e, fun p hp' z => ?_⟩
  rw [ok.pn0, List.nil_append] at hp'
  rcases List.mem_cons.mp hp' with q | q
  · rw [q] at z
    exact ok.afp (by rw [show G.a = b from z]; exact hb)
  · exact ok.pfp us pn hp p q (by rw [z]; exact hb)
theorem take_next {α : Type} {l : List α} {j : Nat} {e : α} (h : l[j]? = some e) : l.take (j + 1) = l.take j ++ [e] := by
  rw [List.take_add_one, h]
  rfl
/-- the loop, between two turns -/
theorem gen_loop (ok : G.Ok A) : ∀ (k : Nat) (us : List Value) (s₀ s : Shared), us.length + k = G.es.length → G.I us us s →
    Seg (model G.X.prog G.X.w) A G.R G.Y (k + 1) s₀ G.loopC ((model G.X.prog G.X.w).den G.loopC) [] s := by
  intro k
  induction k with
  | zero =>
    intro us s₀ s hk hI
    obtain ⟨pn, σ, H, vs, hp, I, kp, en, st, nf, rv, dv⟩ := hI
    have hl : us.length = G.es.length := by omega
    show Seg _ A _ _ _ s₀ _ ((compTurn _ 0 (.ref G.it) .none G.X.env).onRaise (leaving G.X.env)) [] s
    rw [compTurn_gen, Sem.onRaise_eq_wrap]
    refine seg_bind_wrap (wpAny_standAt ?_)
    refine seg_bind_wrap ?_
    rw [ok.over]
    have td := ok.turn.done G.X rfl rfl rfl ok.calm us.length _ s σ H (fun _ _ => False) I (ok.fps hp I nf) st (by rw [hl]; exact ok.stop H kp)
    refine wpAny_mono td (fun r s1 ⟨hr, I1⟩ => ?_) fun _ _ z => False.elim z
    subst hr
    rw [hl, List.take_length] at dv
    exact seg_end (.ok .next) ⟨rfl, rfl, us, hl, pn, σ, H, vs, hp, I1, kp, rv, dv⟩
  | succ k ih =>
    intro us s₀ s hk hI
    obtain ⟨pn, σ, H, vs, hp, I, kp, en, st, nf, rv, dv⟩ := hI
    have hlt : us.length < G.es.length := by omega
    have he : G.es[us.length]? = some G.es[us.length] := List.getElem?_eq_getElem hlt
    generalize G.es[us.length] = e at he
    obtain ⟨hgo, hbody⟩ := ok.body us.length e σ H he kp en
    show Seg _ A _ _ _ s₀ _ ((compTurn _ 0 (.ref G.it) .none G.X.env).onRaise (leaving G.X.env)) [] s
    rw [compTurn_gen, Sem.onRaise_eq_wrap]
    refine seg_bind_wrap (wpAny_standAt ?_)
    refine seg_bind_wrap ?_
    rw [ok.over]
    have ti := ok.turn.item G.X rfl rfl rfl ok.calm us.length _ s σ H (fun _ _ => False) I (ok.fps hp I nf) st hgo
    refine wpAny_mono ti (fun r s1 ⟨u, hr, h1⟩ => ?_) fun _ _ z => False.elim z
    subst hr
    refine seg_bind_wrap ?_
    rw [ok.over]
    refine wpAny_mono h1 (fun _ s2 ⟨x, H2, I2, rx, hy, st2, nf2⟩ => ?_) fun _ _ z => False.elim z
    have I3 := I2.pinned (ok.fps hp I2 nf2) (ok.turn.obj _ _ st2)
    refine seg_bind_wrap ?_
    rw [ok.over]
    refine wpAny_mono (hbody x H2 _ s2 u hy I3 rx) (fun _ s3 h3 => ?_) fun _ _ z => False.elim z
    refine seg_bind_wrap (wpAny_tests_nil ?_)
    simp only [if_true]
    have hout : ∀ v, yieldOut G.X.env v = yieldValue v := fun v => by simp only [yieldOut, ok.co, Bool.false_eq_true, if_false]
    simp only [hout]
    rw [Sem.bind_eq_wrap', Sem.bind_eq_wrap', Sem.wrap_wrap, Sem.wrap_wrap]
    refine seg_wrap ?_
    rw [ok.over]
    refine wpAny_mono h3 (fun v s4 ⟨y, σ4, H4, I4, ry, dy, kp4, en4⟩ => ?_) fun _ _ z => False.elim z
    have pin4 : ∀ b ∈ G.fp, ∀ o, s2.heap.get? b = some o → s4.heap.get? b = some o ∧ H4 b = none := fun b hb o q =>
      let z := I4.pin (b, o) (List.mem_append_right _ (List.mem_append_right _ (mem_pinsAt hb q)))
      ⟨z.1, z.2.1⟩
    have st4 : G.tn (us.length + 1) s4.heap := ok.turn.keep _ _ _ st2 fun b hb o q => (pin4 b hb o q).1
    have nf4 : ∀ b ∈ G.fp, H4 b = none := fun b hb => by
      obtain ⟨o, q, _⟩ := ok.turn.obj _ _ st2 b hb
      exact (pin4 b hb o q).2
    refine seg_at (seg_yield rfl rfl rfl ⟨us, by omega, ⟨pn, σ4, H4, vs ++ [y], hp, I4.unpinned, kp.trans kp4, en4, ?_, nf4, rv.append (.cons ry .nil), ?_⟩, fun s' hI' => ?_⟩)
    · rw [List.length_append]
      exact st4
    · rw [List.length_append, List.length_singleton, take_next he]
      exact (dv.keep kp4).append (.cons dy .nil)
    · exact seg_again rfl (ih (us ++ [v]) s' s' (by rw [List.length_append, List.length_singleton]; omega) hI')
theorem gen_begin (ok : G.Ok A) {s₀ s : Shared} (hI : G.I [] [] s) : Seg (model G.X.prog G.X.w) A G.R G.Y (G.es.length + 1) s₀ G.startC ((model G.X.prog G.X.w).den G.startC) [] s := by
  have loop := fun s' h => gen_loop ok G.es.length [] s₀ s' (by rw [List.length_nil]; omega) h
  show Seg _ A _ _ _ s₀ _ ((compStart _ 0 (.ref G.it) .none G.X.env).onRaise (leaving G.X.env)) [] s
  unfold compStart
  rw [Sem.onRaise_eq_wrap]
  show Seg _ A _ _ _ s₀ _ ((ask >>= _).wrap _ _ _ _) [] s
  refine seg_bind_wrap (wpAny_askSetting ?_)
  have st : G.tn 0 s.heap := by
    obtain ⟨pn, σ, H, vs, hp, I, kp, en, st, nf, rv, dv⟩ := hI
    exact st
  split
  · exact seg_again rfl (loop s hI)
  · refine seg_bind_wrap (wpAny_rule ?_)
    show Seg _ A _ _ _ s₀ _ ((standAt G.iter.pos >>= _).wrap _ _ _ _) [] s
    refine seg_bind_wrap (wpAny_standAt (seg_bind_wrap ?_))
    exact ok.turn.self _ 0 s _ _ st (seg_again rfl (loop s hI))
end
/-! ### woken by its consumer -/
theorem inv_gens {X : Cx} {pins : List (Addr × Obj)} {σ : L2.St} {H : Hp} {s s' : Shared} (I : Inv X pins σ H s) (hh : s'.heap = s.heap) (ho : s'.os = s.os) (hg : AllBare s'.gens) : Inv X pins σ H s' := by
  obtain ⟨h, g, d, t, o⟩ := s'
  have hh : h = s.heap := hh
  have ho : o = s.os := ho
  subst hh ho
  exact ⟨I.ok, I.os, hg, I.base, I.loc, I.cell, I.free, I.freeC, I.pin, I.hok, I.len⟩
section
variable {G : GD} {g : Nat} {B : Around}
theorem GD.I.bare {us us' : List Value} {s : Shared} (h : G.I us us' s) : AllBare s.gens := by
  obtain ⟨pn, σ, H, vs, hp, J, _⟩ := h
  exact J.bare
theorem GD.I.gens {us us' : List Value} {s s' : Shared} (h : G.I us us' s) (hh : s'.heap = s.heap) (ho : s'.os = s.os) (hg : AllBare s'.gens) : G.I us us' s' := by
  obtain ⟨pn, σ, H, vs, hp, I, kp, en, st, r⟩ := h
  exact ⟨pn, σ, H, vs, hp, inv_gens I hh ho hg, kp, en, by rw [hh]; exact st, r⟩
theorem GD.F.kept {us : List Value} {s : Shared} {h' : Heap} {g' : Array GenState} (h : G.F us s) (k : ∀ b o, s.heap.get? b = some o → h'.get? b = some o) (hg : AllBare g') : G.F us { s with heap := h', gens := g' } := by
  obtain ⟨pn, σ, H, vs, hp, I, r⟩ := h
  have I1 := I.kept (t' := s.toks) k
  exact ⟨pn, σ, H, vs, hp, inv_gens I1 rfl rfl hg, r⟩
/-- what the generator's object tells -/
def GD.Gn (G : GD) (g : Nat) : Prop := G.go.cls = .type "generator" ∧ ∃ nm qn, G.go.data = .fields #[.int g 0, nm, qn] ∧ G.go.slots = #[]
theorem GD.I.isGen {us us' : List Value} {s : Shared} (hg : G.Gn g) (h : G.I us us' s) : s.heap.IsGen G.a g := by
  obtain ⟨pn, σ, H, vs, hp, J, _⟩ := h
  obtain ⟨h1, nm, qn, h2, h3⟩ := hg
  exact ⟨G.go, nm, qn, (J.pin (G.a, G.go) (List.mem_append_right _ List.mem_cons_self)).1, h1, h2, h3⟩
theorem GD.I.nolimit {us us' : List Value} {s : Shared} (h : G.I us us' s) : s.heap.NoLimit := by
  obtain ⟨pn, σ, H, vs, hp, J, _⟩ := h
  exact J.nolimit
/-- it sleeps, us is out -/
def GD.W (G : GD) (g : Nat) (B : Around) (us : List Value) (s : Shared) : Prop :=
  G.I us us s ∧ ∃ gs, s.gens[g]? = some gs ∧ ∀ s', G.I us us s' → gs.Goes (model G.X.prog G.X.w) B G.R G.Y (G.es.length - us.length + 1) (.send .none) s'
theorem gen_next {Ac : Around} (hh : Ac.handled = none) (hd : Ac.depth < recursionLimit) (hg : G.Gn g) {us : List Value} {s : Shared} {Q : Option Value → Shared → Prop} {E : Value → Shared → Prop} (hW : G.W g Ac.in1 us s)
    (hy : us.length < G.es.length → ∀ us1 v s', us1.length = us.length → G.I us1 (us1 ++ [v]) s' → (∀ s'', s''.gens = s'.gens → G.I (us1 ++ [v]) (us1 ++ [v]) s'' → G.W g Ac.in1 (us1 ++ [v]) s'') → Q (some v) s')
    (he : us.length = G.es.length → ∀ us1 s', us1.length = us.length → G.F us1 s' → Q none s') : wpAny (model G.X.prog G.X.w) Ac (pyNext (.ref G.a)) Q E s := by
  obtain ⟨hI, gs, hgs, hgo⟩ := hW
  have hgl : g < s.gens.size := (Array.getElem?_eq_some_iff.mp hgs).1
  have hrun : G.I us us (s.setGen g .running) := hI.gens rfl rfl (allBare_setGen hI.bare rfl)
  have hle : us.length ≤ G.es.length := by
    obtain ⟨pn, σ, H, vs, hp, I, kp, en, st, nf, rv, dv⟩ := hI
    have h1 := dv.length
    have h2 := rv.length
    rw [List.length_take] at h1
    omega
  refine GenW.wpAny_gsz (n := g + 1) hgl (wpAny_pyNext_genexpQ (P := G.P) (Y := G.Y) (n := G.es.length - us.length + 1) hh hI.nolimit hd (hI.isGen hg) hgs (hgo _ hrun) (fun v s1 gs' hb hv => ?_) (fun s1 hp h' hk => ?_))
  · intro hsz
    obtain ⟨us1, hm, h1, hk⟩ := hv
    have hm : G.es.length - us.length + us1.length = G.es.length := hm
    have hsz1 : g < s1.gens.size := by
      have q : (s1.setGen g gs').gens.size = s1.gens.size := GenW.setGen_size _ _ _
      have hsz' : g + 1 ≤ (s1.setGen g gs').gens.size := hsz
      omega
    have hlt : us1.length < G.es.length := by
      obtain ⟨pn, σ, H, vs, hp, I, kp, en, st, nf, rv, dv⟩ := h1
      have q1 := dv.length
      have q2 := rv.length
      rw [List.length_take] at q1
      rw [List.length_append, List.length_singleton] at q1 q2
      omega
    have hb1 : AllBare (s1.setGen g gs').gens := allBare_setGen h1.bare hb
    refine hy (by omega) us1 v _ (by omega) (h1.gens rfl rfl hb1) fun s2 hg2 h2 => ⟨h2, gs', ?_, fun s3 h3 => ?_⟩
    · rw [hg2]
      exact setGen_at hsz1
    · have e : G.es.length - (us1 ++ [v]).length + 1 = G.es.length - us.length := by
        rw [List.length_append, List.length_singleton]
        omega
      rw [e]
      exact hk s3 h3
  · intro hsz
    obtain ⟨hn, us1, hl, hF⟩ := hp
    have hb1 : AllBare (s1.setGen g .finished).gens := by
      obtain ⟨pn, σ, H, vs, hp, I, _⟩ := hF
      exact allBare_setGen I.bare rfl
    exact he (by omega) us1 _ (by omega) (hF.kept hk hb1)
end
end Fr
end
-- FrUse
section
set_option Elab.async false
set_option linter.all false
set_option maxRecDepth 100000
set_option maxHeartbeats 1000000
/-! all, sum, tuple of a generator expression at work. -/
namespace Fr
open PySem PySem.Spec PyProof.Rows L2
/-- what the def gets back -/
def GD.Z (G : GD) (s : Shared) : Prop := ∃ pins σ H, Inv G.X pins σ H s ∧ Kp G.X.K G.H1 H
section
variable {G : GD} {g : Nat} {A : Around}
theorem GD.I.z {us us' : List Value} {s : Shared} (h : G.I us us' s) : G.Z s := by
  obtain ⟨pn, σ, H, vs, hp, J, kp, _⟩ := h
  exact ⟨_, σ, H, J, kp⟩
theorem GD.F.z {us : List Value} {s : Shared} (h : G.F us s) : G.Z s := by
  obtain ⟨pn, σ, H, vs, hp, J, kp, _⟩ := h
  exact ⟨_, σ, H, J, kp⟩
/-- the item that came last -/
theorem GD.I.last {us us1 : List Value} {v : Value} {s : Shared} (h : G.I us1 (us ++ [v]) s) : ∃ y H e, RelV y v ∧ G.es[us.length]? = some e ∧ Dat G.X.K H y e := by
  obtain ⟨pn, σ, H, vs, hp, J, kp, en, st, nf, rv, dv⟩ := h
  have hl := rv.length
  rw [List.length_append, List.length_singleton] at hl
  have hv : vs[us.length]? = some (vs[us.length]'(by omega)) := List.getElem?_eq_getElem _
  generalize vs[us.length] = y at hv
  obtain ⟨u, hu, ru⟩ := rv.get hv
  rw [List.getElem?_append_right (Nat.le_refl _), Nat.sub_self] at hu
  cases hu
  obtain ⟨e, he, hd⟩ := dv.getV hv
  rw [List.getElem?_take] at he
  split at he
  · exact ⟨y, H, e, ru, he, hd⟩
  · cases he
/-- the consumer has written at S -/
theorem GD.Ok.sync (ok : G.Ok A) {S : Addr} {us us1 : List Value} {s : Shared} {o' : Obj} {h' : Heap} {t' : Nat} (hS0 : G.X.s_0.heap.objs.size ≤ S) (hSa : G.a ≠ S) (h : G.I us us1 s) (hpn : ∀ pn, G.PN us pn → ∃ o, pn = [(S, o)])
    (hc : ∀ v, o'.data ≠ .cell v) (hp' : G.PN us1 [(S, o')]) (k : ∀ b o, b ≠ S → s.heap.get? b = some o → h'.get? b = some o) (ho' : h'.get? S = some o') : G.I us1 us1 { s with heap := h', toks := t' } := by
  obtain ⟨pn, σ, H, vs, hp, J, kp, en, st, nf, rv, dv⟩ := h
  obtain ⟨o, rfl⟩ := hpn pn hp
  obtain ⟨q1, q2, q3, q4, q5⟩ := J.pin (S, o) (List.mem_append_right _ (List.mem_cons_of_mem _ List.mem_cons_self))
  have J0 : Inv G.X [(G.a, G.go)] σ H s := J.pins_of fun p hp => J.pin p (List.mem_append_right _ (by
    rw [List.mem_singleton.mp hp]
    exact List.mem_cons_self))
  have J1 : Inv G.X [(G.a, G.go)] σ H { s with heap := h', toks := t' } := J0.turned (t' := t') k q2 q3 (.inr hS0) (fun x c e z => by
    obtain ⟨v, oc, h1, h2⟩ := J.cell x c e
    rw [z] at h1
    have q1 : s.heap.get? S = some o := q1
    rw [q1] at h1
    cases h1
    exact q5 v h2) fun p hp => by
      rw [ok.pn0, List.nil_append] at hp
      rw [List.mem_singleton.mp hp]
      exact hSa
  refine ⟨_, σ, H, vs, hp', J1.pins_of fun p hp => ?_, kp, en, ok.turn.keep _ _ _ st fun b hb o e => k b o (fun z => ok.pfp _ _ hp _ List.mem_cons_self (by rw [← z]; exact hb)) e, nf, rv, dv⟩
  rcases List.mem_cons.mp hp with z | z
  · rw [z]
    exact J1.pin (G.a, G.go) (List.mem_append_right _ List.mem_cons_self)
  · rw [List.mem_singleton.mp z]
    exact ⟨ho', q2, q3, q4, hc⟩
/-! ### all -/
theorem all_step {bs : List Bool} {n : Nat} {b : Bool} (h : bs[n]? = some b) : (bs.take (n + 1)).all id = ((bs.take n).all id && b) := by
  rw [take_next h, List.all_append]
  simp
theorem use_all {bs : List Bool} {R : Result → Shared → Prop} (he : G.es = bs.map .bl) (hh : A.handled = none) (hd : A.depth < recursionLimit) (hg : G.Gn g) (hPN : ∀ us us1 pn, G.PN us pn → G.PN us1 pn) (hR : ∀ s', G.Z s' → R (.ok (.ret (.bool (bs.all id)))) s') :
    ∀ (k : Nat) (us : List Value) (s : Shared), us.length + k = G.es.length → (bs.take us.length).all id = true → G.W g A.in1.in1 us s → codeAny (model G.X.prog G.X.w) A (.builtin "all.loop" ⟨[.ref G.a], []⟩) R s := by
  have hbl : G.es.length = bs.length := by rw [he, List.length_map]
  intro k
  induction k with
  | zero =>
    intro us s hk ha hW
    refine codeAny_builtin F.entry_all_loop (Around.under_plainId F.plain_all_loop _ ▸ ?_)
    refine wpAny_bind (gen_next (Ac := A.in1) hh hd hg hW (fun hlt => absurd hlt (by omega)) (fun hl us1 s' hl1 hF => ?_))
    rw [List.take_of_length_le (by omega)] at ha
    refine wpAny_bind (wpAny_rule (wpAny_pure ?_))
    rw [← ha]
    exact hR s' hF.z
  | succ k ih =>
    intro us s hk ha hW
    refine codeAny_builtin F.entry_all_loop (Around.under_plainId F.plain_all_loop _ ▸ ?_)
    refine wpAny_bind (gen_next (Ac := A.in1) hh hd hg hW (fun hlt us1 v s' hl h1 hw => ?_) (fun hl => absurd hl (by omega)))
    obtain ⟨y, H, e, ry, hes, hy⟩ := h1.last
    rw [he, List.getElem?_map] at hes
    cases hb : bs[us1.length]? with
    | none =>
      rw [hb] at hes
      cases hes
    | some b =>
      rw [hb] at hes
      cases hes
      cases hy
      cases ry
      have h2 : G.I (us1 ++ [Value.bool b]) (us1 ++ [Value.bool b]) s' := by
        obtain ⟨pn, σ, H, vs, hp, r⟩ := h1
        exact ⟨pn, σ, H, vs, hPN _ _ _ hp, r⟩
      refine wpAny_bind (wpAny_holding (wpAny_truthy_bool (wpAny_bind (wpAny_letGo ?_))))
      cases b with
      | true =>
        refine wpAny_pure ⟨plainId_quiet F.plain_all_loop _, ih _ s' (by rw [List.length_append, List.length_singleton]; omega) ?_ (hw s' rfl h2)⟩
        rw [List.length_append, List.length_singleton, all_step hb, hl, ha]
        rfl
      | false =>
        refine wpAny_bind (wpAny_rule (wpAny_pure ?_))
        have hall : bs.all id = false := by
          rw [List.all_eq_false]
          exact ⟨false, List.mem_of_getElem? hb, by simp⟩
        show R (.ok (.ret (.bool false))) s'
        rw [← hall]
        exact hR s' h2.z
/-! ### sum -/
def sumObj (i : Int) (t : Tok) (c : Nat) : Obj := { cls := .type "list", dict := none, data := .seq #[.int i t] c, slots := #[] }
theorem use_sum {ns : List Int} {S : Addr} {R : Result → Shared → Prop} {B' : Around} (ok : G.Ok B') (he : G.es = ns.map .int) (hh : A.handled = none) (hd : A.depth < recursionLimit) (hg : G.Gn g) (hPN : G.PN = fun us pn => ∃ t c, pn = [(S, sumObj (ns.take us.length).sum t c)])
    (hS0 : G.X.s_0.heap.objs.size ≤ S) (hSa : G.a ≠ S) (hfit : ∀ j i, ns[j]? = some i → InLong i ∧ InLong (ns.take (j + 1)).sum) (hR : ∀ s' t', G.Z s' → R (.ok (.ret (.int ns.sum t'))) s') :
    ∀ (k : Nat) (us : List Value) (s : Shared), us.length + k = G.es.length → G.W g A.in1.in1 us s → codeAny (model G.X.prog G.X.w) A (.builtin "sum.loop" ⟨[.ref G.a, .ref S, rawInt 0, rawInt 0], []⟩) R s := by
  have hbl : G.es.length = ns.length := by rw [he, List.length_map]
  have atS : ∀ {us us' : List Value} {s : Shared}, G.I us us' s → ∃ t c, s.heap.get? S = some (sumObj (ns.take us.length).sum t c) := fun {us us' s} ⟨pn, σ, H, vs, hp, J, _⟩ => by
    rw [hPN] at hp
    obtain ⟨t, c, rfl⟩ := hp
    exact ⟨t, c, (J.pin (S, _) (List.mem_append_right _ (List.mem_cons_of_mem _ List.mem_cons_self))).1⟩
  intro k
  induction k with
  | zero =>
    intro us s hk hW
    obtain ⟨t0, c0, hS⟩ := atS hW.1
    refine codeAny_builtin F.entry_sum_loop (Around.under_plainId F.plain_sum_loop _ ▸ ?_)
    refine wpAny_bind (wpAny_seqItems hS rfl ?_)
    show wpAny _ A.in1 (tryCatch (pyNext (.ref G.a)) _ >>= _) _ _ s
    refine wpAny_bind (wpAny_tryCatch (gen_next (Ac := A.in1) hh hd hg hW (fun hlt => absurd hlt (by omega)) (fun hl us1 s' hl1 hF => ?_)))
    rw [List.take_of_length_le (by omega)]
    exact wpAny_pure (hR s' t0 hF.z)
  | succ k ih =>
    intro us s hk hW
    obtain ⟨t0, c0, hS⟩ := atS hW.1
    refine codeAny_builtin F.entry_sum_loop (Around.under_plainId F.plain_sum_loop _ ▸ ?_)
    refine wpAny_bind (wpAny_seqItems hS rfl ?_)
    show wpAny _ A.in1 (tryCatch (pyNext (.ref G.a)) _ >>= _) _ _ s
    refine wpAny_bind (wpAny_tryCatch (gen_next (Ac := A.in1) hh hd hg hW (fun hlt us1 v s' hl h1 hw => ?_) (fun hl => absurd hl (by omega))))
    obtain ⟨y, H, e, ry, hes, hy⟩ := h1.last
    rw [he, List.getElem?_map] at hes
    cases hb : ns[us1.length]? with
    | none =>
      rw [hb] at hes
      cases hes
    | some i =>
      rw [hb] at hes
      cases hes
      cases hy
      obtain ⟨ti, rfl⟩ := ry
      obtain ⟨t1, c1, hS1⟩ := atS h1
      obtain ⟨⟨f1, f2⟩, f3⟩ := hfit _ _ hb
      have hsum : (ns.take (us1.length + 1)).sum = (ns.take us.length).sum + i := by
        rw [take_next hb, List.sum_append, hl]
        simp
      rw [hsum] at f3
      obtain ⟨f3, f4⟩ := f3
      have hc : ((decide (-(2 ^ 63) ≤ i) && decide (i < 2 ^ 63)) && (decide (-(2 ^ 63) ≤ (ns.take us.length).sum + i) && decide ((ns.take us.length).sum + i < 2 ^ 63))) = true := by
        simp only [Bool.and_eq_true, decide_eq_true_eq]
        exact ⟨⟨f1, f2⟩, f3, f4⟩
      show wpAny _ A.in1 (if (_ : Bool) = true then (mkInt ((ns.take us.length).sum + i) >>= _) else _) _ _ _
      split
      · refine wpAny_bind (wpAny_mkInt ?_)
        show wpAny _ A.in1 (updateSeq S (fun _ => #[.int ((ns.take us.length).sum + i) s'.toks]) >>= _) _ _ _
        refine wpAny_bind (wpAny_updateSeq hS1 rfl (wpAny_pure ⟨plainId_quiet F.plain_sum_loop _, ih (us1 ++ [Value.int i ti]) _ (by rw [List.length_append, List.length_singleton]; omega) (hw _ rfl ?_)⟩))
        refine ok.sync (o' := sumObj ((ns.take us.length).sum + i) s'.toks c1) hS0 hSa (h1.gens (s' := { s' with toks := s'.toks + 1 }) rfl rfl h1.bare) (fun pn hp => ?_) (fun v z => by cases z) ?_ (fun b o hb e => (Heap.get?_update_other _ _ (Ne.symm hb)).trans e) ?_
        · rw [hPN] at hp
          obtain ⟨t, c, rfl⟩ := hp
          exact ⟨_, rfl⟩
        · rw [hPN]
          refine ⟨s'.toks, c1, ?_⟩
          rw [List.length_append, List.length_singleton, hsum]
        · exact Heap.get?_update_self (Obj.mapSeq fun _ => #[.int ((ns.take us.length).sum + i) s'.toks]) hS1 rfl
      · rename_i hneg
        exact absurd hc hneg
/-! ### tuple -/
theorem use_ext {S : Addr} {R : Result → Shared → Prop} {B' : Around} (ok : G.Ok B') (hh : A.handled = none) (hd : A.depth < recursionLimit) (hg : G.Gn g) (hPN : G.PN = fun us pn => ∃ c, pn = [(S, lstObj us.toArray c)]) (hn : G.es.length ≤ sizeLine)
    (hS0 : G.X.s_0.heap.objs.size ≤ S) (hSa : G.a ≠ S) (res : Value) (hR : ∀ us s' c, G.F us s' → us.length = G.es.length → s'.heap.get? S = some (lstObj us.toArray c) → R (.ok (.ret res)) s') :
    ∀ (k : Nat) (us : List Value) (s : Shared), us.length + k = G.es.length → G.W g A.in1.in1 us s → codeAny (model G.X.prog G.X.w) A (.builtin "list.extend.loop" ⟨[.ref S, .ref G.a, res], []⟩) R s := by
  intro k
  induction k with
  | zero =>
    intro us s hk hW
    refine codeAny_builtin F.entry_extend_loop (Around.under_plainId F.plain_extend_loop _ ▸ ?_)
    refine wpAny_bind (gen_next (Ac := A.in1) hh hd hg hW (fun hlt => absurd hlt (by omega)) (fun hl us1 s' hl1 hF => ?_))
    have hS : ∃ c, s'.heap.get? S = some (lstObj us1.toArray c) := by
      obtain ⟨pn, σ, H, vs, hp, J, _⟩ := hF
      rw [hPN] at hp
      obtain ⟨c, rfl⟩ := hp
      exact ⟨c, (J.pin (S, _) (List.mem_append_right _ (List.mem_cons_of_mem _ List.mem_cons_self))).1⟩
    obtain ⟨c, hS⟩ := hS
    exact wpAny_pure (hR us1 s' c hF (by omega) hS)
  | succ k ih =>
    intro us s hk hW
    refine codeAny_builtin F.entry_extend_loop (Around.under_plainId F.plain_extend_loop _ ▸ ?_)
    refine wpAny_bind (gen_next (Ac := A.in1) hh hd hg hW (fun hlt us1 v s' hl h1 hw => ?_) (fun hl => absurd hl (by omega)))
    have hS : ∃ c, s'.heap.get? S = some (lstObj us1.toArray c) := by
      obtain ⟨pn, σ, H, vs, hp, J, _⟩ := h1
      rw [hPN] at hp
      obtain ⟨c, rfl⟩ := hp
      exact ⟨c, (J.pin (S, _) (List.mem_append_right _ (List.mem_cons_of_mem _ List.mem_cons_self))).1⟩
    obtain ⟨c, hS⟩ := hS
    show wpAny _ A.in1 (updateSeq S (·.push v) >>= _) _ _ _
    refine wpAny_bind (wpAny_updateSeq hS rfl (wpAny_pure ⟨plainId_quiet F.plain_extend_loop _, ih (us1 ++ [v]) _ (by rw [List.length_append, List.length_singleton]; omega) (hw _ rfl ?_)⟩) (by rw [List.size_toArray]; omega) (by show (us1.toArray.push v).size ≤ sizeLine + 1; rw [Array.size_push, List.size_toArray]; omega))
    have hup := Heap.get?_update_self (h := s'.heap) (Obj.mapSeq (·.push v)) hS rfl
    refine ok.sync (o' := Obj.mapSeq (·.push v) (lstObj us1.toArray c)) (t' := s'.toks) hS0 hSa h1 (fun pn hp => ?_) (fun v z => by cases z) ?_ (fun b o hb e => (Heap.get?_update_other _ _ (Ne.symm hb)).trans e) hup
    · rw [hPN] at hp
      obtain ⟨c, rfl⟩ := hp
      exact ⟨_, rfl⟩
    · rw [hPN]
      refine ⟨if (us1.toArray.push v).size == us1.toArray.size then c else c + 1, ?_⟩
      show [(S, Obj.mapSeq (·.push v) (lstObj us1.toArray c))] = _
      have e : (us1 ++ [v]).toArray = us1.toArray.push v := by simp
      rw [e]
      rfl
end
end Fr
end
-- FrGx
section
set_option Elab.async false
set_option linter.all false
set_option maxRecDepth 100000
set_option maxHeartbeats 1000000
/-! all, sum, tuple of a generator expression, over data. -/
namespace Fr
open PySem PySem.Spec PyProof.Rows L2
/-! ### iterators, targets over data -/
structure Its (K : PySem.W.Frag) (J : It) (H1 : Hp) (l : List D) : Prop where
  go : ∀ (j : Nat) y H, l[j]? = some y → Kp K H1 H → J.go j H
  yld : ∀ (j : Nat) y H x H', l[j]? = some y → Kp K H1 H → J.yld j H x H' → Kp K H H' ∧ Dat K H' x y
  stop : ∀ H, Kp K H1 H → J.stop l.length H
def DI (X : Cx) (tg iter : Expr) (δ : List Sl) (Φ : List D → Prop) : Prop := ∀ σ H (R : It → Hp → Prop), Ek X.K H σ δ → (∀ J H1 l, Φ l → Kp X.K H H1 → Its X.K J H1 l → R J H1) →
  ∀ (pins : List (Addr × Obj)) (s : Shared), Inv X pins σ H s → wpAny (model X.prog X.w) X.A (eval iter X.env) (fun v s1 => wpAny (model X.prog X.w) X.A (pyIter v) (PIE X pins σ tg R) X.xe s1) X.xe s
def DGt (X : Cx) (tg : Expr) (y : D) (δ δ' : List Sl) : Prop := ∀ σ H (pins : List (Addr × Obj)) (s : Shared) (x : V) (u : Value), Ek X.K H σ δ → Dat X.K H x y → Inv X pins σ H s → RelV x u →
  wpAny (model X.prog X.w) X.A (assign tg X.env u) (fun _ s' => ∃ σ', Ek X.K H σ' δ' ∧ Inv X pins σ' H s') X.xe s
section
variable {X : Cx} {δ : List Sl} {e e2 : Expr} {Φ : List D → Prop} {tg : Expr} {x y : Str} {p pos tpos : Pos}
theorem its_tup {K : PySem.W.Frag} {H : Hp} {a : Addr} {xs : List V} {l : List D} (h : SqT K H a xs) (d : DatL K H xs l) (inj : ∀ {H' : Hp} {ys : List V}, Kp K H H' → SqT K H' a ys → ys = xs) : Its K (Itt K a) H l where
  go := fun j y H' e k => by
    obtain ⟨u, e1, _⟩ := d.get e
    exact ⟨xs, u, sqT_keep k h, e1⟩
  yld := fun j y H' v H2 e k ⟨h1, h2⟩ => by
    subst h1
    obtain ⟨u, e1, e2⟩ := d.get e
    have q := h2 xs (sqT_keep k h)
    rw [e1] at q
    cases q
    exact ⟨Kp.refl _ _, e2.keep k⟩
  stop := fun H' k => ⟨xs, sqT_keep k h, by rw [d.length]; exact Nat.le_refl _⟩
theorem di_tup (h : DE X e δ fun d => ∃ l, d = .tup l ∧ Φ l) : DI X tg e δ Φ := fun σ H R en k pins s I => (pi_tup (tg := tg) pe_E).run pins s σ H R I (h σ H _ en fun d v H1 ⟨l, ed, p⟩ k1 d1 => by
  subst ed
  cases d1 with
  | @tup a xs _ hh hl => exact ⟨a, rfl, ⟨xs, hh⟩, k _ H1 l p k1 ⟨fun j y H' e kk => (let ⟨u, e1, _⟩ := hl.get e; ⟨xs, u, sqT_keep kk hh, e1⟩), fun j y H' v H2 e kk ⟨h1, h2⟩ => by
      subst h1
      obtain ⟨u, e1, e2⟩ := hl.get e
      have q := h2 xs (sqT_keep kk hh)
      rw [e1] at q
      cases q
      exact ⟨Kp.refl _ _, e2.keep kk⟩, fun H' kk => ⟨xs, sqT_keep kk hh, by rw [hl.length]; exact Nat.le_refl _⟩⟩⟩)
theorem di_zip {elts : List Expr} {kk : Nat} (hg : Gl X "zip") (hm : X.mg "zip" = none) (h : DA X [e, e2] δ fun ds => ∃ l m, ds = [.tup l, .tup m] ∧ Φ ((l.zip m).map fun p => .tup [p.1, p.2]))
    (hs : starEach [e, e2] X.env = (false, eval e X.env) :: starEach [e2] X.env := by rfl) (hpl : (backTo pos (starEach [e2] X.env)).any (·.1) = false := by rfl) : DI X (.Tuple elts kk tpos) (.Call (.Name "zip" p) [e, e2] [] pos) δ Φ := fun σ H R en k pins s I =>
  (RZ.pi_zipA hg hm pa_A hs hpl).run pins s σ H R I (h σ H _ en fun ds vs H1 ⟨l, m, ed, q⟩ k1 d1 => by
    subst ed
    cases d1 with
    | cons h1 d1 =>
      cases d1 with
      | cons h2 d1 =>
        cases d1
        cases h1 with
        | @tup a xs _ ha hl =>
          cases h2 with
          | @tup b ys _ hb hm =>
            refine ⟨a, b, xs, ys, rfl, .inr ⟨ha, hb, k _ H1 _ q k1 ⟨fun j y H' e kp => ?_, fun j y H' v H2 e kp hy => ?_, fun H' kp => ?_⟩⟩⟩
            · rw [List.getElem?_map] at e
              cases z : (l.zip m)[j]? with
              | none => rw [z] at e; cases e
              | some pr =>
                obtain ⟨z1, z2⟩ := List.getElem?_zip_eq_some.mp z
                obtain ⟨u1, w1, _⟩ := hl.get z1
                obtain ⟨u2, w2, _⟩ := hm.get z2
                exact ⟨xs, ys, u1, u2, sqT_keep kp ha, sqT_keep kp hb, w1, w2⟩
            · rw [List.getElem?_map] at e
              cases z : (l.zip m)[j]? with
              | none => rw [z] at e; cases e
              | some pr =>
                rw [z] at e
                cases e
                obtain ⟨z1, z2⟩ := List.getElem?_zip_eq_some.mp z
                obtain ⟨u1, w1, c1⟩ := hl.get z1
                obtain ⟨u2, w2, c2⟩ := hm.get z2
                obtain ⟨T, x1, x2, rfl, hT, rfl, r1, r2⟩ := hy
                have r1 := r1 xs (sqT_keep kp ha)
                have r2 := r2 ys (sqT_keep kp hb)
                rw [w1] at r1
                rw [w2] at r2
                cases r1
                cases r2
                exact ⟨Kp.new hT, .tup (SqT.of upd_same) (.cons ((c1.keep kp).keep (Kp.new hT)) (.cons ((c2.keep kp).keep (Kp.new hT)) .nil))⟩
            · refine ⟨xs, ys, sqT_keep kp ha, sqT_keep kp hb, ?_⟩
              rw [List.length_map, List.length_zip, hl.length, hm.length]
              omega)
theorem dg_name (i : Nat) {d : D} (hN : X.N.Nodup) (hi : X.N[i]? = some x) (hx : Loc X.env.scope x) (hf : X.fn x = true ∨ X.env.scope.names.lookup x = some .local := by first | exact .inl rfl | exact .inr rfl) : DGt X (.Name x p) d δ (δ.set i (.v d)) := fun σ H pins s v u en hd I r =>
  thn ((pg_name hN hi hx hf).run pins s σ H v u (fun σ' H' => H' = H ∧ Ek X.K H σ' (δ.set i (.v d))) I r ⟨rfl, en.set i hd⟩) fun _ s' ⟨σ', H', I', h1, h2⟩ => by
    subst h1
    exact ⟨σ', h2, I'⟩
theorem dg_pair (i j : Nat) {q : Pos} {n : Nat} {a b : D} (hc : X.calm = true) (hN : X.N.Nodup) (hi : X.N[i]? = some x) (hj : X.N[j]? = some y) (hx : Loc X.env.scope x) (hy : Loc X.env.scope y)
    (hf : X.fn x = true ∨ X.env.scope.names.lookup x = some .local := by first | exact .inl rfl | exact .inr rfl) (hf2 : X.fn y = true ∨ X.env.scope.names.lookup y = some .local := by first | exact .inl rfl | exact .inr rfl) :
    DGt X (.Tuple [.Name x p, .Name y q] n tpos) (.tup [a, b]) δ ((δ.set i (.v a)).set j (.v b)) := fun σ H pins s v u en hd I r => by
  cases hd with
  | tup hh hl =>
    cases hl with
    | cons h1 hl =>
      cases hl with
      | cons h2 hl =>
        cases hl
        exact thn ((pg_tup hc (pgs_cons (pg_name hN hi hx hf) (pgs_cons (pg_name hN hj hy hf2) pgs_nil))).run pins s σ H _ u (fun σ' H' => H' = H ∧ Ek X.K H σ' ((δ.set i (.v a)).set j (.v b))) I r
          ⟨_, _, rfl, hh, rfl, _, _, rfl, _, _, rfl, rfl, rfl, (en.set i h1).set j h2⟩) fun _ s' ⟨σ', H', I', h1, h2⟩ => by
            subst h1
            exact ⟨σ', h2, I'⟩
end
/-- the block's own names may be forgotten -/
def Bck (δ' δ : List Sl) : Prop := δ.length = δ'.length ∧ ∀ (i : Nat) s, δ[i]? = some s → s = .no ∨ δ'[i]? = some s
theorem Bck.one {δ : List Sl} {i : Nat} {s : Sl} (h : δ[i]? = some .no) : Bck (δ.set i s) δ := by
  refine ⟨by rw [List.length_set], fun j z e => ?_⟩
  by_cases q : i = j
  · subst q
    rw [h] at e
    cases e
    exact .inl rfl
  · exact .inr (by rw [set_get q]; exact e)
theorem Bck.two {δ : List Sl} {i j : Nat} {s t : Sl} (h : δ[i]? = some .no) (h2 : δ[j]? = some .no) : Bck ((δ.set i s).set j t) δ := by
  refine ⟨by rw [List.length_set, List.length_set], fun l z e => ?_⟩
  by_cases q : i = l
  · subst q
    rw [h] at e
    cases e
    exact .inl rfl
  · by_cases q2 : j = l
    · subst q2
      rw [h2] at e
      cases e
      exact .inl rfl
    · exact .inr (by rw [set_get q2, set_get q]; exact e)
/-- the elements -/
def Elts (X : Cx) (k : Nat) (Ng : List Str) (scope : Scope) (δg : List Sl) (tg elt : Expr) (l es : List D) : Prop :=
  es.length = l.length ∧ ∀ (j : Nat) y e, l[j]? = some y → es[j]? = some e → ∀ (A : Around) (s : Shared) (H : Hp) (fp : List Addr) (C : Addr) (code : Value), Room k A →
    ∃ δ', DGt (gCx X A Ng s H fp scope C code) tg y δg δ' ∧ Bck δ' δg ∧ DE (gCx X A Ng s H fp scope C code) elt δ' (fun d => d = e)
/-- a generator has been made -/
structure GMk (X : Cx) (pins : List (Addr × Obj)) (σ : L2.St) (B : Around) (G : GD) (g : Nat) (s5 : Shared) : Prop where
  px : G.X.prog = X.prog
  wx : G.X.w = X.w
  kx : G.X.K = X.K
  ok : ∀ PN : List Value → List (Addr × Obj) → Prop, (∀ us pn, PN us pn → ∀ p ∈ pn, p.1 ∉ G.fp) → ({ G with PN := PN } : GD).Ok B
  gn : G.Gn g
  s0 : G.X.s_0.heap.objs.size ≤ s5.heap.objs.size
  a : G.a < s5.heap.objs.size
  fp : ∀ b ∈ G.fp, b < s5.heap.objs.size
  gen : s5.heap.IsGen G.a g
  start : ∀ (PN : List Value → List (Addr × Obj) → Prop) (pn : List (Addr × Obj)) (h6 : Heap) (t6 : Nat), PN [] pn → (∀ us pn, PN us pn → ∀ p ∈ pn, p.1 ∉ G.fp) → (∀ b o, s5.heap.get? b = some o → h6.get? b = some o) →
    (∀ p ∈ pn, h6.get? p.1 = some p.2 ∧ s5.heap.objs.size ≤ p.1 ∧ ∀ v, p.2.data ≠ .cell v) → ({ G with PN := PN } : GD).W g B [] { s5 with heap := h6, toks := t6 }
  back : ∀ pins' σ' H' s', Inv G.X pins' σ' H' s' → Inv X pins σ H' s'
  lim : s5.heap.NoLimit
section
variable {X : Cx} {pins : List (Addr × Obj)} {σ : L2.St} {H : Hp} {s : Shared} {δ : List Sl}
theorem over_gen {B : Around} {it : Addr} {elt tg iter : Expr} {scope : Scope} {pos : Pos} {env : PySem.Env} : B.over (.compLoop (.GeneratorExp elt [⟨tg, iter, [], 0⟩] scope pos) 0 (.ref it) .none env) [] = ⟨B.handled, B.depth + 0 + 1, pushEnvs [env] (pushEnvs [] B.frames), pushGuards [] (pushGuards [] B.guards), B.units + 0 + 3⟩ := rfl
theorem gen_made {k : Nat} {c P : Addr} {elt tg iter : Expr} {scope : Scope} {gpos : Pos} {Ng : List Str} {cap : List (Option Nat)} {R : List D → Prop} {Q' : Value → Shared → Prop} (B : Around) (hB : B.handled = none) (hf : B.frames = X.A.frames) (hdep : B.depth + 3 * k + 6 < recursionLimit) (hun : B.units + 16 * k + 203 < cLine) (hdX : X.A.depth < recursionLimit)
    (TB : LamX.TabB X.base X.mg c P) (hPg : P ∈ gtab X.K) (hPl : P ≠ ltab X.K) (hcode : X.env.code = .ref c) (Bg : GenB X.N Ng X.env.scope scope cap) (hs : ∀ v, genFold iter X.env v = pure v) (I : Inv X pins σ H s) (en : Ek X.K H σ δ)
    (hi : DI X tg iter δ fun l => ∃ es, Elts X k Ng scope (capD δ cap) tg elt l es ∧ R es) (hQ : ∀ (G : GD) (g : Nat) (s5 : Shared), R G.es → Kp X.K H G.H1 → GMk X pins σ B G g s5 → Q' (.ref G.a) s5) :
    wpAny (model X.prog X.w) X.A (eval (.GeneratorExp elt [⟨tg, iter, [], 0⟩] scope gpos) X.env) Q' X.xe s := by
  have hfree : ∀ y ∈ scope.names, y.2 = .free → ∃ c, X.env.cells.lookup y.1 = some c := fun y hy e => (Bg.free y hy e).elim (fun z => I.ok.has _ (.inl z)) fun z => I.ok.has _ (.inr z)
  refine wpAny_GeneratorExp_make Bg.co (closure_ok hfree) Bg.cell Bg.dot Bg.kind hdX ?_ hs
  refine thn (hi σ H (fun J H1 => ∃ l, (∃ es, Elts X k Ng scope (capD δ cap) tg elt l es ∧ R es) ∧ Kp X.K H H1 ∧ Its X.K J H1 l) en (fun J H1 l p k i => ⟨l, p, k, i⟩) pins s I) fun xv s1 h1 => thn h1 fun itv s2 h2 => ?_
  obtain ⟨it, fp, tn, J, H2, rfl, I2, T, st2, f2, l, ⟨es, ⟨hlen, hel⟩, hR⟩, kp2, its⟩ := h2
  have en2 := en.keep kp2
  obtain ⟨ps, hP, ht⟩ := en2.1.1 P hPg
  refine ⟨I2.nolimit, ?_⟩
  have hPs : s2.heap.get? P = some { cls := .none, data := .fields ps } := I2.hok P _ hP
  have hPlt : P < s2.heap.objs.size := Heap.lt_size hPs
  have cd : PySem.W.CodeHd s2.heap c P := TB.code.keeps fun b u e => I2.bk b u e
  have sz : ∀ b ∈ fp, b < s2.heap.objs.size := fun b hb => by
    obtain ⟨o, e, _⟩ := T.obj _ _ st2 b hb
    exact Heap.lt_size e
  have cont : ∀ (code : Value) (h3 : Heap) (tk : Nat) (ps' : Array Value), Heap.ExtBut P s2.heap h3 → s2.heap.objs.size ≤ h3.objs.size → h3.get? P = some { cls := .none, data := .fields ps' } → (∃ more, ps' = ps ++ more) → TriplesOk ps'.toList →
      wpAny (model X.prog X.w) X.A (builtinsFor X.env.globals X.env.builtins) (fun bi s₄ => ∀ h' : Heap, h'.Ns s₄.heap.objs.size (fun y => if y = ".0" then some (.ref it) else none) → Heap.SameBut s₄.heap.objs.size (s₄.heap.push { cls := .type "frame", data := .dict #[] }) h' →
          Q' (.ref h'.objs.size) { s₄ with
            gens := s₄.gens.push (.fresh (.compStart (.GeneratorExp elt [⟨tg, iter, [], 0⟩] scope gpos) 0 (.ref it) .none (genEnv scope (cloFrom X.env.cells scope.names []) s₄.heap.objs.size code bi X.env))),
            toks := s₄.toks + 1 + 1 + 1,
            heap := h'.push { cls := .type "generator", data := .fields #[.int s₄.gens.size 0, .str "<genexpr>" (s₄.toks + 1), .str (X.env.qual ++ "<genexpr>") (s₄.toks + 1 + 1)] } }) X.xe { s2 with heap := h3, toks := tk } := by
    intro code h3 tk ps' hx hsz hP3 hmore ht3
    obtain ⟨bm, ob, e1, e2, e3, e4, e5, e6, e7, e8⟩ := TB.bm
    have keep3 : ∀ b u, b ≠ P → s2.heap.get? b = some u → h3.get? b = some u := fun b u hb e => hx b u hb e
    refine wpAny_builtinsFor (m := X.mg) (by rw [I2.ok.glob]; exact (I2.mod.glob.keeps I2.bk).extBut hx TB.gP) e1 e2 (keep3 _ _ e4 (I2.bk _ _ e5)) e6 e7 e8 ?_
    intro h' hns' hsb
    obtain ⟨more, rfl⟩ := hmore
    have hsz' : h'.objs.size = h3.objs.size + 1 := by rw [hsb.1, Heap.size_push]
    generalize hgo : ({ cls := .type "generator", data := .fields #[.int s2.gens.size 0, .str "<genexpr>" (tk + 1), .str (X.env.qual ++ "<genexpr>") (tk + 1 + 1)] } : Obj) = go
    have hg1 : go.cls = .type "generator" := by rw [← hgo]
    have hg2 : ∃ nm qn, go.data = .fields #[.int s2.gens.size 0, nm, qn] ∧ go.slots = #[] := by
      rw [← hgo]
      exact ⟨_, _, rfl, rfl⟩
    have gaf : go.isFreed = false := by rw [← hgo]; rfl
    have gac : ∀ v, go.data ≠ .cell v := fun v z => by rw [← hgo] at z; cases z
    -- the heap behind the making
    have keep5 : ∀ b o, b ≠ P → s2.heap.get? b = some o → (h'.push go).get? b = some o := fun b o hb e =>
      Heap.get?_push_of_some _ (hsb.extBut b o (Nat.ne_of_lt (Nat.lt_of_lt_of_le (Heap.lt_size e) hsz)) (Heap.get?_push_of_some _ (keep3 b o hb e)))
    have hP5 : (h'.push go).get? P = some { cls := .none, data := .fields (ps ++ more) } := Heap.get?_push_of_some _ (hsb.extBut P _ (Nat.ne_of_lt (Nat.lt_of_lt_of_le hPlt hsz)) (Heap.get?_push_of_some _ hP3))
    have hA0 : (B.over (.compLoop (.GeneratorExp elt [⟨tg, iter, [], 0⟩] scope gpos) 0 (.ref it) .none (gEnv X scope h3.objs.size code)) []).frames = some (gEnv X scope h3.objs.size code :: X.stack) := by
      rw [over_gen]
      show pushEnvs [_] (pushEnvs [] B.frames) = _
      rw [hf, I2.ok.frames]
      rfl
    have hAr : Room k (B.over (.compLoop (.GeneratorExp elt [⟨tg, iter, [], 0⟩] scope gpos) 0 (.ref it) .none (gEnv X scope h3.objs.size code)) []) := by
      rw [over_gen]
      exact ⟨hB, by show B.depth + 0 + 1 + 3 * k + 5 < _; omega, by show B.units + 0 + 3 + 16 * k + 200 < _; omega⟩
    generalize hs5 : ({ s2 with gens := s2.gens.push (.fresh (.compStart (.GeneratorExp elt [⟨tg, iter, [], 0⟩] scope gpos) 0 (.ref it) .none (gEnv X scope h3.objs.size code))), toks := tk + 1 + 1 + 1, heap := h'.push go } : Shared) = s5
    have h5 : s5.heap = h'.push go := by rw [← hs5]
    have b5 : AllBare s5.gens := by rw [← hs5]; exact I2.bare.push rfl
    have J5 := gen_start (A := B.over (.compLoop (.GeneratorExp elt [⟨tg, iter, [], 0⟩] scope gpos) 0 (.ref it) .none (gEnv X scope h3.objs.size code)) []) (fp := fp) (s5 := s5) (more := more) (code := code) I2 Bg hAr.hd hA0 (fun b hb => ⟨f2 b hb, sz b hb⟩) hP hsz
      ⟨_, by rw [h5]; exact hns'.push _⟩ (by rw [← hs5]) b5 (by rw [h5]; exact keep5) (by rw [h5]; exact hP5)
    have en5 : Ek X.K (upd H2 P (.tbl (ps ++ more))) (capS σ cap) (capD δ cap) := (en2.keep (Kp.tab hP ht3 hPl)).cap cap
    have nst : ∀ b, s2.heap.objs.size ≤ b → b ∉ frs X.stack := fun b hb z => by
      rcases List.mem_cons.mp (I2.stkSub b z) with z | z
      · rw [z] at hb
        exact absurd (Nat.lt_of_lt_of_le I2.lt hb) (Nat.lt_irrefl _)
      · exact I2.nofs hb z
    have nH3 : ∀ b, s2.heap.objs.size ≤ b → upd H2 P (.tbl (ps ++ more)) b = none := fun b hb => by
      rw [upd_ne (fun z => by rw [z] at hb; exact absurd (Nat.lt_of_lt_of_le hPlt hb) (Nat.lt_irrefl _))]
      exact I2.hok.fresh hb
    have haC : h'.objs.size ≠ h3.objs.size := by rw [hsz']; exact Nat.succ_ne_self _
    have ha2 : s2.heap.objs.size ≤ h'.objs.size := by omega
    have a5 : s5.heap.get? h'.objs.size = some go := by rw [h5]; exact Heap.get?_push_size _ gaf
    have z5 : s5.heap.objs.size = h'.objs.size + 1 := by rw [h5, Heap.size_push]
    have nPf : ∀ b ∈ fp, b ≠ P := fun b hb z => by
      have n := (f2 b hb).1
      rw [z, hP] at n
      cases n
    let G : GD := { X := gCx X (B.over (.compLoop (.GeneratorExp elt [⟨tg, iter, [], 0⟩] scope gpos) 0 (.ref it) .none (gEnv X scope h3.objs.size code)) []) Ng s2 H2 fp scope h3.objs.size code, H1 := H2, elt := elt, tg := tg, iter := iter, scope := scope, pos := gpos, it := it, fp := fp, tn := tn, J := J, δ := capD δ cap, es := es, a := h'.objs.size, go := go, PN := fun _ _ => False }
    have ok : ∀ PN : List Value → List (Addr × Obj) → Prop, (∀ us pn, PN us pn → ∀ p ∈ pn, p.1 ∉ fp) → ({ G with PN := PN } : GD).Ok B := fun PN hpf => by
      refine ⟨T, rfl, rfl, rfl, fun hb => ?_, hpf, rfl, Bg.co, fun j e σ' H' he kp' en' => ?_, fun H' kp' => ?_⟩
      · have h1 : h'.objs.size < s2.heap.objs.size := sz _ hb
        omega
      · have hjl : j < l.length := by
          rw [← hlen]
          exact (List.getElem?_eq_some_iff.mp he).1
        have hy : l[j]? = some l[j] := List.getElem?_eq_getElem hjl
        generalize l[j] = y at hy
        refine ⟨its.go j y H' hy kp', fun x H3 pins' s' u hyl I' r => ?_⟩
        obtain ⟨k3, d3⟩ := its.yld j y H' x H3 hy kp' hyl
        obtain ⟨δ', hg, hbk, hE⟩ := hel j y e hy he _ s2 H2 fp h3.objs.size code hAr
        refine wpAny_mono (hg σ' H3 pins' s' x u (en'.keep k3) d3 I' r) (fun _ s3 ⟨σ3, en3, I3⟩ => ?_) fun _ _ z => z
        refine wpAny_mono (hE σ3 H3 (fun v H4 => Dat X.K H4 v e ∧ Kp X.K H3 H4) en3 (fun d v H4 ed k4 d4 => by subst ed; exact ⟨d4, k4⟩) pins' s3 I3) (fun v s4 ⟨y', H4, I4, r4, d4, k4⟩ => ?_) fun _ _ z => z
        exact ⟨y', σ3, H4, I4, r4, d4, k3.trans k4, (en3.keep k4).weak hbk.1 hbk.2⟩
      · have q := its.stop H' kp'
        rw [← hlen] at q
        exact q
    refine hQ G s2.gens.size s5 hR kp2 ⟨rfl, rfl, rfl, ok, ⟨hg1, hg2⟩, ?_, ?_, fun b hb => ?_, ?_, fun PN pn h6 t6 hp hpf hk hpin => ?_, fun pins' σ' H' s' Jb => ?_, ?_⟩
    · show s2.heap.objs.size ≤ s5.heap.objs.size
      omega
    · show h'.objs.size < s5.heap.objs.size
      omega
    · exact Nat.lt_of_lt_of_le (sz b hb) (by omega)
    · obtain ⟨nm, qn, q1, q2⟩ := hg2
      exact ⟨go, nm, qn, a5, hg1, q1, q2⟩
    · have J6 : Inv G.X [] (capS σ cap) (upd H2 P (.tbl (ps ++ more))) { s5 with heap := h6, toks := t6 } := J5.kept hk
      have hI : ({ G with PN := PN } : GD).I [] [] { s5 with heap := h6, toks := t6 } := by
        refine ⟨pn, _, _, [], hp, J6.pins_of fun p hp' => ?_, Kp.tab hP ht3 hPl, en5, T.keep _ _ _ st2 fun b hb o e => hk b o (by rw [h5]; exact keep5 b o (nPf b hb) e), fun b hb => ?_, .nil, ?_⟩
        · rcases List.mem_cons.mp hp' with z | z
          · rw [z]
            exact ⟨hk _ _ a5, nH3 _ ha2, haC, nst _ ha2, gac⟩
          · obtain ⟨w1, w2, w3⟩ := hpin p z
            have w4 : h'.objs.size + 1 ≤ p.1 := by rw [← z5]; exact w2
            exact ⟨w1, nH3 _ (by omega), Nat.ne_of_gt (Nat.lt_of_lt_of_le (show h3.objs.size < h'.objs.size + 1 by omega) w4), nst _ (by omega), w3⟩
        · show upd H2 P _ b = none
          have n := (f2 b hb).1
          rw [upd_ne (fun z => by rw [z, hP] at n; cases n)]
          exact n
        · rw [List.length_nil, List.take_zero]
          exact .nil
      refine ⟨hI, .fresh ({ G with PN := PN } : GD).startC, ?_, fun s' hs' => ⟨rfl, ?_⟩⟩
      · rw [← hs5]
        exact Array.getElem?_push_size ..
      · exact gen_begin (ok PN hpf) hs'
    · exact I2.call' (ch := fp) Jb.os Jb.base Jb.hok Jb.bare fun b hb => ⟨(f2 b hb).2.2.2.1, (f2 b hb).2.1, (f2 b hb).2.2.2.2.1, (f2 b hb).2.2.2.2.2⟩
    · exact J5.nolimit
  cases hc : codeAmong gpos ps.toList with
  | none =>
    refine wpAny_genexprCodeX hcode (cd.code hPs ht) (cd.tab hPs) hc fun c' h' tk hx hge hlt hco' _ htab' _ => ?_
    obtain ⟨o1, vs, f1, tf, fl, tg, inF, tx, tt, op, _, _, _, _, _, _, _, _, _, htr, _⟩ := hco'
    exact cont _ h' tk _ hx (Nat.le_trans hge (Nat.le_of_lt hlt)) htab'.2 ⟨_, rfl⟩ htr
  | some cv =>
    refine wpAny_genexprCode_hit hcode (cd.code hPs ht) hc ?_
    exact cont cv s2.heap s2.toks ps (Heap.ExtBut.refl _ _) (Nat.le_refl _) hPs ⟨#[], by simp⟩ ht
/-! ### all(..) -/
theorem gIn1 {k : Nat} (hr : Room (k + 1) X.A) : X.A.in1.in1.handled = none ∧ X.A.in1.in1.frames = X.A.frames ∧ X.A.in1.in1.depth + 3 * k + 6 < recursionLimit ∧ X.A.in1.in1.units + 16 * k + 203 < cLine :=
  ⟨hr.hd, rfl, by have := hr.dp; show X.A.depth + 3 * k + 6 < _; omega, by have := hr.un; show X.A.units + 1 + 1 + 16 * k + 203 < _; omega⟩
theorem de_all {k : Nat} {c P : Addr} {elt tg iter : Expr} {scope : Scope} {gpos p pos : Pos} {Ng : List Str} {cap : List (Option Nat)} {Φ : D → Prop} (hr : Room (k + 1) X.A) (hg : Gl X "all") (hm : X.mg "all" = none) (hb : bootBuiltins "all" = some (.builtin "all"))
    (TB : LamX.TabB X.base X.mg c P) (hPg : P ∈ gtab X.K) (hPl : P ≠ ltab X.K) (hcode : X.env.code = .ref c) (Bg : GenB X.N Ng X.env.scope scope cap)
    (hi : DI X tg iter δ fun l => ∃ es, Elts X k Ng scope (capD δ cap) tg elt l es ∧ ∃ bs : List Bool, es = bs.map .bl ∧ Φ (.bl (bs.all id))) (hs : ∀ v, genFold iter X.env v = pure v := by intro _; rfl)
    (he : starEach [.GeneratorExp elt [⟨tg, iter, [], 0⟩] scope gpos] X.env = (false, eval (.GeneratorExp elt [⟨tg, iter, [], 0⟩] scope gpos) X.env) :: starEach [] X.env := by rfl) :
    DE X (.Call (.Name "all" p) [.GeneratorExp elt [⟨tg, iter, [], 0⟩] scope gpos] [] pos) δ Φ := fun σ H Q en kk pins s I => by
  obtain ⟨g1, g2, g3, g4⟩ := gIn1 hr
  refine wpAny_Call_Name_kw (ld_blt I hg hm hb (PyProof.Rows.callWith_builtin1 ?_ he (by rfl)))
  rw [he]
  show wpAny _ _ (spliced ((false, eval (.GeneratorExp elt [⟨tg, iter, [], 0⟩] scope gpos) X.env) :: backTo pos (starEach [] X.env))) _ _ s
  refine Calls.spliced_cons (gen_made X.A.in1.in1 g1 g2 g3 g4 hr.depth TB hPg hPl hcode Bg hs I en hi fun G g s5 ⟨bs, hes, hΦ⟩ kp M => Calls.spliced_nil ?_)
  refine call_function_tree F.kind_all F.plain_all F.entry_all (F.args_all1 _) ?_
  unfold Builtin.«all»
  refine wpAny_bind (m := oneArg "all" _) (wpAny_pure (wpAny_bind (wpAny_pyIter_gen M.gen (wpAny_pure ⟨plainId_quiet F.plain_all_loop _, ?_⟩))))
  have W := M.start (fun _ pn => pn = []) [] s5.heap s5.toks rfl (fun us pn e p hp => by rw [e] at hp; cases hp) (fun b o e => e) (fun p hp => by cases hp)
  have q := fun R hR => use_all (G := { G with PN := fun _ pn => pn = [] }) (A := X.A) (R := R) hes hr.hd hr.depth M.gn (fun us us1 pn e => e) hR _ [] s5 (by rw [List.length_nil, Nat.zero_add]) rfl W
  rw [M.px, M.wx] at q
  refine q _ fun s' ⟨pins', σ', H', J, kp'⟩ => ?_
  exact ⟨.bl _, H', M.back _ _ _ _ J, rfl, kk (.bl _) _ H' hΦ (kp.trans (M.kx ▸ kp')) (.bl _)⟩
/-! ### sum(..) -/
theorem de_sumG {k : Nat} {c P : Addr} {elt tg iter : Expr} {scope : Scope} {gpos p pos : Pos} {Ng : List Str} {cap : List (Option Nat)} {Φ : D → Prop} (hr : Room (k + 1) X.A) (hg : Gl X "sum") (hm : X.mg "sum" = none) (hb : bootBuiltins "sum" = some (.builtin "sum"))
    (TB : LamX.TabB X.base X.mg c P) (hPg : P ∈ gtab X.K) (hPl : P ≠ ltab X.K) (hcode : X.env.code = .ref c) (Bg : GenB X.N Ng X.env.scope scope cap)
    (hi : DI X tg iter δ fun l => ∃ es, Elts X k Ng scope (capD δ cap) tg elt l es ∧ ∃ ns : List Int, es = ns.map .int ∧ (∀ (j : Nat) i, ns[j]? = some i → InLong i ∧ InLong (ns.take (j + 1)).sum) ∧ Φ (.int ns.sum)) (hs : ∀ v, genFold iter X.env v = pure v := by intro _; rfl)
    (he : starEach [.GeneratorExp elt [⟨tg, iter, [], 0⟩] scope gpos] X.env = (false, eval (.GeneratorExp elt [⟨tg, iter, [], 0⟩] scope gpos) X.env) :: starEach [] X.env := by rfl) :
    DE X (.Call (.Name "sum" p) [.GeneratorExp elt [⟨tg, iter, [], 0⟩] scope gpos] [] pos) δ Φ := fun σ H Q en kk pins s I => by
  obtain ⟨g1, g2, g3, g4⟩ := gIn1 hr
  refine wpAny_Call_Name_kw (ld_blt I hg hm hb (PyProof.Rows.callWith_builtin1 ?_ he (by rfl)))
  rw [he]
  show wpAny _ _ (spliced ((false, eval (.GeneratorExp elt [⟨tg, iter, [], 0⟩] scope gpos) X.env) :: backTo pos (starEach [] X.env))) _ _ s
  refine Calls.spliced_cons (gen_made X.A.in1.in1 g1 g2 g3 g4 hr.depth TB hPg hPl hcode Bg hs I en hi fun G g s5 ⟨ns, hes, hfit, hΦ⟩ kp M => Calls.spliced_nil ?_)
  refine call_function_tree F.kind_sum F.plain_sum F.entry_sum (F.args_sum1 _) ?_
  unfold Builtin.«sum»
  simp only [List.length_cons, List.length_nil]
  rw [if_neg (by decide)]
  refine wpAny_bind (wpAny_of_eq (show Builtin.Builtins.bindParams "sum" ["start"] 0 { } = pure [none] from rfl) (wpAny_bind (wpAny_pyIter_gen M.gen (wpAny_bind (wpAny_mkInt (wpAny_bind (wpAny_pure ?_)))))))
  simp only [List.forIn_cons, List.forIn_nil]
  refine wpAny_bind (wpAny_bind (wpAny_bind (wpAny_isInstance (T := "int") (b := false) (typeIs_int _ _ _) PySem.sub_int_str ?_)))
  simp only [Bool.false_eq_true, if_false]
  refine wpAny_pure (wpAny_bind (wpAny_bind (wpAny_isInstance (T := "int") (b := false) (typeIs_int _ _ _) PySem.sub_int_bytes ?_)))
  simp only [Bool.false_eq_true, if_false]
  refine wpAny_pure (wpAny_bind (wpAny_bind (wpAny_isInstance (T := "int") (b := false) (typeIs_int _ _ _) PySem.sub_int_bytearray ?_)))
  simp only [Bool.false_eq_true, if_false]
  refine wpAny_pure (wpAny_pure (wpAny_bind (wpAny_newObj_type (wpAny_pure ⟨plainId_quiet F.plain_sum_loop _, ?_⟩))))
  have hpn : ∀ (us : List Value) (pn : List (Addr × Obj)), (∃ t c, pn = [(s5.heap.objs.size, sumObj (ns.take us.length).sum t c)]) → ∀ p ∈ pn, p.1 ∉ G.fp := fun us pn ⟨t, c, e⟩ p hp hf => by
    subst e
    rw [List.mem_singleton.mp hp] at hf
    exact Nat.lt_irrefl _ (M.fp _ hf)
  have W := M.start (fun us pn => ∃ t c, pn = [(s5.heap.objs.size, sumObj (ns.take us.length).sum t c)]) [(s5.heap.objs.size, sumObj 0 s5.toks 0)] (s5.heap.push (sumObj 0 s5.toks 0)) (s5.toks + 1) ⟨_, _, rfl⟩ hpn (fun b o e => Heap.get?_push_of_some _ e) (fun p hp => by
    rw [List.mem_singleton.mp hp]
    exact ⟨Heap.get?_push_size _ rfl, Nat.le_refl _, fun v z => by cases z⟩)
  have q := fun R hR => use_sum (G := { G with PN := fun us pn => ∃ t c, pn = [(s5.heap.objs.size, sumObj (ns.take us.length).sum t c)] }) (A := X.A) (R := R) (S := s5.heap.objs.size) (M.ok _ hpn) hes hr.hd hr.depth M.gn rfl M.s0 (Nat.ne_of_lt M.a) hfit hR _ [] _ (by rw [List.length_nil, Nat.zero_add]) W
  rw [M.px, M.wx] at q
  refine q _ fun s' t' ⟨pins', σ', H', J, kp'⟩ => ?_
  exact ⟨.int _, H', M.back _ _ _ _ J, ⟨t', rfl⟩, kk (.int _) _ H' hΦ (kp.trans (M.kx ▸ kp')) (.int _)⟩
/-! ### tuple(..) -/
theorem use_collect {G : GD} {g : Nat} {A : Around} {E : Value → Shared → Prop} {Qc : List Value → Shared → Prop} {s5 : Shared} (M : GMk X pins σ A.in1.in1 G g s5) (hh : A.handled = none) (hd : A.depth < recursionLimit) (hn : G.es.length ≤ sizeLine)
    (hQ : ∀ us s' pins' σ' H' vs, us.length = G.es.length → Inv G.X pins' σ' H' s' → Kp G.X.K G.H1 H' → Vals vs us → DatL G.X.K H' vs G.es → Qc us s') : wpAny (model X.prog X.w) A (collect (.ref G.a)) Qc E s5 := by
  have hSa : s5.heap.objs.size ≠ G.a := Nat.ne_of_gt M.a
  unfold collect
  refine wpAny_bind (wpAny_runValue (codeAny_builtin F.entry_proto_collect (Around.under_plainId F.plain_proto_collect _ ▸ ?_)))
  show wpAny _ A.in1 (newList [] >>= fun l => again (.builtin "list.__iadd__" ⟨[l, .ref G.a], []⟩)) _ _ s5
  refine wpAny_bind (wpAny_newObj_type ?_)
  refine wpAny_pure ⟨plainId_quiet F.plain_list_iadd _, codeAny_builtin F.entry_list_iadd (Around.under_plainId F.plain_list_iadd _ ▸ ?_)⟩
  have k1 : ∀ b o, s5.heap.get? b = some o → (s5.heap.push { cls := .type "list", data := .seq ([] : List Value).toArray }).get? b = some o := fun b o e => Heap.get?_push_of_some _ e
  have gt1 : (s5.heap.push { cls := .type "list", data := .seq ([] : List Value).toArray }).IsGen G.a g := M.gen.keeps k1
  have ty : ({ s5 with heap := s5.heap.push { cls := .type "list", data := .seq ([] : List Value).toArray } } : Shared).TypeIs (.ref G.a) "generator" := gt1.typeIs
  show wpAny _ A.in1 (Builtin.List.listExtendWith (.ref s5.heap.objs.size) (.ref G.a) (.ref s5.heap.objs.size)) _ _ _
  unfold Builtin.List.listExtendWith
  refine wpAny_bind (wpAny_typeOf ty ?_)
  have n1 : Builtin.List.listSameRef (.ref s5.heap.objs.size) (.ref G.a) = false := by simp [Builtin.List.listSameRef, hSa]
  have n2 : (Value.type "generator" == Value.type "list") = false := by decide
  have n3 : (Value.type "generator" == Value.type "tuple") = false := by decide
  simp only [n1, n2, n3, Bool.or_false, Bool.false_eq_true, if_false]
  refine wpAny_bind (wpAny_pyIter_gen gt1 (wpAny_bind (wpAny_holding ?_)))
  unfold Builtin.List.listLengthHint
  refine wpAny_bind (wpAny_specialOf ty F.gen_no_len ?_)
  show wpAny _ A.in1 (specialOf (Value.ref G.a) (Str.ofString "__length_hint__") >>= _) _ _ _
  refine wpAny_bind (wpAny_specialOf ty F.gen_no_hint (wpAny_pure ?_))
  show wpAny _ A.in1 (rule "list.extend.makes-room" >>= fun _ => Builtin.List.listTouch (.ref s5.heap.objs.size) >>= fun _ =>
    again (.builtin "list.extend.loop" ⟨[.ref s5.heap.objs.size, .ref G.a, .ref s5.heap.objs.size], []⟩)) _ _ _
  refine wpAny_bind (wpAny_rule (wpAny_bind ?_))
  have a1 : (s5.heap.push { cls := .type "list", data := .seq ([] : List Value).toArray }).get? s5.heap.objs.size = some { cls := .type "list", data := .seq ([] : List Value).toArray } := Heap.get?_push_size _ rfl
  have a2 := Heap.get?_update_self (Obj.mapSeq (·.push Value.none)) a1 rfl
  have a3 := Heap.get?_update_self (Obj.mapSeq (·.pop)) a2 rfl
  show wpAny _ A.in1 (updateSeq s5.heap.objs.size (·.push .none) >>= fun _ => updateSeq s5.heap.objs.size (·.pop)) _ _ _
  refine wpAny_bind (wpAny_updateSeq a1 rfl (wpAny_updateSeq a2 rfl (wpAny_pure ⟨plainId_quiet F.plain_extend_loop _, ?_⟩)))
  have k3 : ∀ b o, s5.heap.get? b = some o → (((s5.heap.push { cls := .type "list", data := .seq ([] : List Value).toArray }).update s5.heap.objs.size (Obj.mapSeq (·.push Value.none))).update s5.heap.objs.size (Obj.mapSeq (·.pop))).get? b = some o := fun b o e => by
    have hb : s5.heap.objs.size ≠ b := Nat.ne_of_gt (Heap.lt_size e)
    exact (Heap.get?_update_other _ _ hb).trans ((Heap.get?_update_other _ _ hb).trans (k1 b o e))
  have hpn : ∀ (us : List Value) (pn : List (Addr × Obj)), (∃ c, pn = [(s5.heap.objs.size, lstObj us.toArray c)]) → ∀ p ∈ pn, p.1 ∉ G.fp := fun us pn ⟨c, e⟩ p hp hf => by
    subst e
    rw [List.mem_singleton.mp hp] at hf
    exact Nat.lt_irrefl _ (M.fp _ hf)
  have W := M.start (fun us pn => ∃ c, pn = [(s5.heap.objs.size, lstObj us.toArray c)]) [(s5.heap.objs.size, lstObj #[] 2)] _ s5.toks ⟨_, rfl⟩ hpn k3 (fun p hp => by
    rw [List.mem_singleton.mp hp]
    exact ⟨a3, Nat.le_refl _, fun v z => by cases z⟩)
  have q := fun R hR => use_ext (G := { G with PN := fun us pn => ∃ c, pn = [(s5.heap.objs.size, lstObj us.toArray c)] }) (A := A) (R := R) (S := s5.heap.objs.size) (M.ok _ hpn) hh hd M.gn rfl hn M.s0 (Nat.ne_of_lt M.a) (.ref s5.heap.objs.size) hR _ [] _ (by rw [List.length_nil, Nat.zero_add]) W
  rw [M.px, M.wx] at q
  refine q _ fun us s' c ⟨pn, σ', H', vs, hp, J, kp, rv, dv⟩ hl hS => ?_
  show wpAny _ A (load s5.heap.objs.size >>= _) _ _ s'
  exact wpAny_bind (wpAny_load hS (wpAny_pure (hQ us s' _ σ' H' vs hl J kp rv dv)))
theorem use_tuple {G : GD} {g : Nat} {A : Around} {E : Value → Shared → Prop} {Qt : Value → Shared → Prop} {s5 : Shared} (M : GMk X pins σ A.in1.in1.in1.in1 G g s5) (hh : A.handled = none) (hd : A.depth < recursionLimit) (hn : G.es.length ≤ sizeLine)
    (hQ : ∀ us s' pins' σ' H' vs, us.length = G.es.length → Inv G.X pins' σ' H' s' → Kp G.X.K G.H1 H' → Vals vs us → DatL G.X.K H' vs G.es → Qt (.ref s'.heap.objs.size) { s' with heap := s'.heap.push { cls := .type "tuple", data := .seq us.toArray } }) :
    wpAny (model X.prog X.w) A (call (.type "tuple") [.ref G.a]) Qt E s5 := by
  have tyG : s5.TypeIs (.ref G.a) "generator" := M.gen.typeIs
  refine callType_codes (Q₁ := fun obj s₁ => s₁.TypeIs obj "tuple" ∧ Qt obj s₁) F.called_tuple (F.typeCall_tuple_1 _) F.entry_object_init ?_ fun obj s₁ h₁ => ⟨h₁.1, F.args_object_init_2 obj _, object_init_meets F.called_tuple.init.lookup F.called_tuple.made (by decide) X.prog X.w A.in1 _ s₁ ⟨h₁.1, rfl, h₁.2⟩⟩
  refine codeAny_of_tree ?_
  show wpAny _ A.in1.in1 (do checkBuiltinCall "tuple.__new__" ⟨[.type "tuple", .ref G.a], []⟩; again (.builtin "tuple.__new__" ⟨[.type "tuple", .ref G.a], []⟩)) _ _ s5
  refine wpAny_bind (wpAny_of_eq (F.newCall_tuple_1 _) (wpAny_pure ⟨plainId_quiet F.plain_tuple_new _, codeAny_builtin F.entry_tuple_new ?_⟩))
  rw [Around.under_plainId F.plain_tuple_new _]
  have hsub := sub_tuple_self
  have hinit := init_tuple_lookup
  have hmh := madeHere_tuple
  wp_walk using wpAny_typeOf tyG, use_collect (A := A.in1.in1) M hh hd hn
  intro us s' pins' σ' H' vs h1 h2 h3 h4 h5
  show wpAny _ _ (Builtin.Tuple.tupleExact us.toArray >>= fun v => ret v) _ _ _
  unfold Builtin.Tuple.tupleExact
  refine wpAny_bind (wpAny_newObj_type (wpAny_pure ?_) (by show us.toArray.size ≤ sizeLine; rw [List.size_toArray, h1]; exact hn))
  exact ⟨⟨_, Heap.get?_push_size _ rfl, rfl⟩, hQ us s' pins' σ' H' vs h1 h2 h3 h4 h5⟩
theorem de_tupG {k : Nat} {c P : Addr} {elt tg iter : Expr} {scope : Scope} {gpos p pos : Pos} {Ng : List Str} {cap : List (Option Nat)} {Φ : D → Prop} (hr : Room (k + 1) X.A) (hg : Gl X "tuple") (hm : X.mg "tuple" = none) (hb : bootBuiltins "tuple" = some (.type "tuple"))
    (TB : LamX.TabB X.base X.mg c P) (hPg : P ∈ gtab X.K) (hPl : P ≠ ltab X.K) (hcode : X.env.code = .ref c) (Bg : GenB X.N Ng X.env.scope scope cap)
    (hi : DI X tg iter δ fun l => ∃ es, Elts X k Ng scope (capD δ cap) tg elt l es ∧ es.length ≤ sizeLine ∧ Φ (.tup es)) (hs : ∀ v, genFold iter X.env v = pure v := by intro _; rfl)
    (he : starEach [.GeneratorExp elt [⟨tg, iter, [], 0⟩] scope gpos] X.env = (false, eval (.GeneratorExp elt [⟨tg, iter, [], 0⟩] scope gpos) X.env) :: starEach [] X.env := by rfl) :
    DE X (.Call (.Name "tuple" p) [.GeneratorExp elt [⟨tg, iter, [], 0⟩] scope gpos] [] pos) δ Φ := fun σ H Q en kk pins s I => by
  refine wpAny_Call_Name_kw (ld_blt I hg hm hb (PyProof.Rows.callWith_type1 ?_ he (by rfl)))
  rw [he]
  show wpAny _ _ (spliced ((false, eval (.GeneratorExp elt [⟨tg, iter, [], 0⟩] scope gpos) X.env) :: backTo pos (starEach [] X.env))) _ _ s
  refine Calls.spliced_cons (gen_made (k := k) X.A.in1.in1.in1.in1 hr.hd rfl (by have := hr.dp; show X.A.depth + 3 * k + 6 < _; omega) (by have := hr.un; show X.A.units + 1 + 1 + 1 + 1 + 16 * k + 203 < _; omega) hr.depth TB hPg hPl hcode Bg hs I en hi fun G g s5 ⟨hn, hΦ⟩ kp M => Calls.spliced_nil ?_)
  refine use_tuple M hr.hd hr.depth hn fun us s' pins' σ' H' vs h1 J kp' rv dv => ?_
  rw [M.kx] at kp' dv
  have I1 := M.back _ _ _ _ J
  have hfr := I1.hok.fresh (Nat.le_refl s'.heap.objs.size)
  have I2 : Inv X pins σ (upd H' s'.heap.objs.size (.tup vs)) { s' with heap := s'.heap.push { cls := .type "tuple", data := .seq us.toArray } } :=
    I1.laid (t' := s'.toks) (fun b o e => Heap.get?_push_of_some _ e) (Nat.le_refl _) (show ObjOk X.prog X.w _ _ _ (.tup vs) from ⟨by rw [rv.length, h1]; exact hn, us, rv, IsTup.new _ _⟩)
  exact ⟨.ref _, _, I2, rfl, kk _ _ _ hΦ ((kp.trans kp').trans (Kp.new hfr)) (.tup (SqT.of upd_same) (dv.keep (Kp.new hfr)))⟩
end
end Fr
end
-- FrDict
section
set_option Elab.async false
set_option linter.all false
set_option maxRecDepth 100000
/-! Displays of dicts with text keys. -/
namespace Fr
open PySem PySem.Spec PyProof.Rows L2
section
variable {K : PySem.W.Frag} {H : Hp} {p : Addr} {kvs0 kvs : List (Key × V)}
mutual
/-- plain data do not see a dict's change -/
theorem Dat.dkeep (hp : H p = some (.dK kvs0)) : ∀ {v : V} {d : D}, Dat K H v d → d.pl = true → Dat K (upd H p (.dK kvs)) v d
  | _, _, .non, _ => .non
  | _, _, .bl b, _ => .bl b
  | _, _, .int i, _ => .int i
  | _, _, .str x, _ => .str x
  | _, _, @Dat.tup _ _ a xs ds h l, q => by
    rw [D.pl] at q
    refine .tup ?_ (DatL.dkeep hp l q)
    have ne : ∀ u, H a = some u → (∀ r, u ≠ .dK r) → upd H p (.dK kvs) a = some u := fun u e n => by
      rw [upd_ne fun z => by rw [z, hp] at e; exact n _ (Option.some.inj e).symm]
      exact e
    rcases h with (h | ⟨o, h⟩) | h
    · exact .inl (.inl (ne _ h fun r z => by cases z))
    · exact .inl (.inr ⟨o, ne _ h fun r z => by cases z⟩)
    · exact .inr h
  | _, _, @Dat.lst _ _ a xs ds h l, q => by
    rw [D.pl] at q
    refine .lst ?_ (DatL.dkeep hp l q)
    rw [upd_ne fun z => by rw [z, hp] at h; cases h]
    exact h
  | _, _, .dic h n l, q => by rw [D.pl] at q; cases q
  | _, _, .obj h l, q => by rw [D.pl] at q; cases q
  | _, _, .tape h, q => by rw [D.pl] at q; cases q
  | _, _, .fnc _, q => by rw [D.pl] at q; cases q
  | _, _, .exn _ _, q => by rw [D.pl] at q; cases q
  | _, _, .scr _, q => by rw [D.pl] at q; cases q
theorem DatL.dkeep (hp : H p = some (.dK kvs0)) : ∀ {v : List V} {d : List D}, DatL K H v d → plL d = true → DatL K (upd H p (.dK kvs)) v d
  | _, _, .nil, _ => .nil
  | _, _, .cons h l, q => by
    rw [plL, Bool.and_eq_true] at q
    exact .cons (Dat.dkeep hp h q.1) (DatL.dkeep hp l q.2)
end
theorem soft_dK {kvs : List (Key × V)} : Soft (.dK kvs) := ⟨fun _ z => (by cases z), fun _ _ z => (by unfold LamX.CodeO at z; cases z)⟩
end
/-- the values of a display, one after another -/
def DPr (X : Cx) : List Expr → List Sl → (List D → Prop) → Prop
  | [], _, Φ => Φ []
  | e :: es, δ, Φ => DE X e δ fun d => d.pl = true ∧ DPr X es δ fun ds => Φ (d :: ds)
def trsOf (X : Cx) : List Str → List Expr → List (TE × TE)
  | k :: ks, e :: es => (tC (.str k), tE X e) :: trsOf X ks es
  | _, _ => []
section
variable {X : Cx} {pos : Pos}
theorem pairs_of {σ : L2.St} {δ : List Sl} : ∀ {ks : List Str} {es : List Expr} {H : Hp} {Φ : List D → Prop} {Q : List (V × V) → Hp → Prop}, ks.length = es.length → Ek X.K H σ δ → DPr X es δ Φ →
    (∀ ds vs H', Φ ds → plL ds = true → vs.length = ks.length → Kp X.K H H' → DatL X.K H' vs ds → Q ((ks.map V.str).zip vs) H') → tPairs (trsOf X ks es) σ H Q
  | [], [], H, Φ, Q, _, en, h, k => k [] [] H h (by rw [plL]) rfl (Kp.refl _ _) .nil
  | x :: ks, e :: es, H, Φ, Q, hl, en, h, k => by
    refine h σ H _ en fun d v H1 ⟨hp, h1⟩ k1 d1 => ?_
    refine pairs_of (by simpa using hl) (en.keep k1) h1 fun ds vs H2 p q z k2 d2 => ?_
    exact k (d :: ds) (v :: vs) H2 p (by rw [plL, hp, q]; rfl) (by rw [List.length_cons, List.length_cons, z]) (k1.trans k2) (.cons (d1.keep k2) d2)
  | [], _ :: _, _, _, _, hl, _, _, _ => by cases hl
  | _ :: _, [], _, _, _, hl, _, _, _ => by cases hl
theorem zip_keys : ∀ (ks : List Str) (vs : List V), (ks.map V.str).zip vs = ((ks.map Sum.inr : List Key).zip vs).map fun kv => (kV kv.1, kv.2)
  | [], _ => rfl
  | _ :: _, [] => rfl
  | a :: ks, v :: vs => by
    rw [List.map_cons, List.map_cons, List.zip_cons_cons, List.zip_cons_cons, List.map_cons, zip_keys ks vs]
    rfl
/-- the display's dict at p, its values' data -/
theorem dict_core {keys : List (Option Expr)} {values : List Expr} {ks : List Str} {δ : List Sl} {Φ : List D → Prop} (hP : PPs X pos keys values (trsOf X ks values)) (hall : keys.all (·.isSome) = true) (hl : keys.length = values.length) (h0 : keys ≠ []) (h15 : keys.length ≤ 15) (hk : ks.length = values.length)
    (h : DPr X values δ Φ) {σ : L2.St} {H : Hp} {Q : VK} (en : Ek X.K H σ δ) (k : ∀ p ds vs H', Φ ds → vs.length = ks.length → H' p = some (.dK (mergeK [] ((ks.map Sum.inr).zip vs))) → H p = none → Kp X.K H H' → DatL X.K H' vs ds → Q (.ref p) H') : tE X (.Dict keys values pos) σ H Q := fun pins s I => by
  refine (pe_disp hP hall hl h0 h15).run pins s σ H Q I fun p hp => ?_
  have kn : Kp X.K H (upd H p (.dK [])) := Kp.new hp
  refine pairs_of hk (en.keep kn) h fun ds vs H2 p1 q1 z k2 d2 => ?_
  have h2 : H2 p = some (.dK []) := k2.st p _ upd_same (fun z => by cases z)
  have e := zip_keys ks vs
  refine ⟨h2, _, e, ?_, k p ds vs _ p1 z upd_same hp (Kp.mut (kn.trans k2) hp h2 soft_dK) (DatL.dkeep h2 d2 q1)⟩
  rw [List.length_zip, List.length_map]
  omega
theorem datK_zip {K : PySem.W.Frag} {H : Hp} : ∀ {ks : List Str} {vs : List V} {ds : List D}, DatL K H vs ds → vs.length = ks.length → DatK K H ((ks.map Sum.inr).zip vs) (ks.zip ds)
  | [], [], _, .nil, _ => .nil
  | k :: ks, v :: vs, d :: ds, .cons h r, hl => .cons h (datK_zip r (by simpa using hl))
  | [], _ :: _, _, _, hl => by cases hl
  | _ :: _, [], _, _, hl => by cases hl
/-- {"k": e, ..} -/
theorem de_dict {keys : List (Option Expr)} {values : List Expr} {δ : List Sl} {Φ : D → Prop} (ks : List Str) (hP : PPs X pos keys values (trsOf X ks values)) (hall : keys.all (·.isSome) = true) (hl : keys.length = values.length) (h0 : keys ≠ []) (h15 : keys.length ≤ 15) (hk : ks.length = values.length)
    (hm : ∀ vs : List V, vs.length = ks.length → mergeK [] ((ks.map Sum.inr).zip vs) = (ks.map Sum.inr).zip vs) (hn : (ks.map Sum.inr : List Key) ≠ tapeK) (h : DPr X values δ fun ds => Φ (.dic (ks.zip ds))) : DE X (.Dict keys values pos) δ Φ := fun σ H Q en kk => dict_core hP hall hl h0 h15 hk h en fun p ds vs H' q z e hp k d => by
  rw [hm vs z] at e
  refine kk _ _ H' q k (.dic e ?_ (datK_zip d z))
  rw [List.map_fst_zip (by rw [List.length_map]; omega)]
  exact hn
/-- the tape's display -/
theorem de_tapeD {keys : List (Option Expr)} {values : List Expr} {δ : List Sl} {Φ : D → Prop} (hP : PPs X pos keys values (trsOf X ["cells", "at", "great", "left", "seed", "turn"] values)) (hall : keys.all (·.isSome) = true) (hl : keys.length = values.length) (h0 : keys ≠ []) (h15 : keys.length ≤ 15) (hk : 6 = values.length)
    (h : DPr X values δ fun ds => (∃ (cs : List Int) (a b c d e : Int), 0 ≤ a ∧ ds = [.lst (cs.map .int), .int a, .int b, .int c, .int d, .int e]) ∧ Φ .tape) : DE X (.Dict keys values pos) δ Φ := fun σ H Q en kk => dict_core hP hall hl h0 h15 hk h en fun p ds vs H' ⟨⟨cs, a, b, c, d, e, ha, hds⟩, q⟩ z eH hp k dl => by
  subst hds
  cases dl with
  | cons h1 dl =>
    cases dl with
    | cons h2 dl =>
      cases dl with
      | cons h3 dl =>
        cases dl with
        | cons h4 dl =>
          cases dl with
          | cons h5 dl =>
            cases dl with
            | cons h6 dl =>
              cases dl
              cases h2
              cases h3
              cases h4
              cases h5
              cases h6
              cases h1 with
              | @lst l xs _ hh hx =>
                have ex := hx.ints
                subst ex
                exact kk _ _ H' q k (.tape (l := l) ⟨cs, a, b, c, d, e, eH, hh, ha⟩)
end
end Fr
end
-- FrIn
section
set_option Elab.async false
set_option linter.all false
set_option maxRecDepth 100000
/-! in, not in: tuples and lists of plain data. -/
namespace Fr
open PySem PySem.Spec PyProof.Rows L2
section
variable {X : Cx} {Φ : D → Prop}
def rInT (K : PySem.W.Frag) : R2 := fun x y H Q => ∃ d ds, Dp K H x d ∧ Dp K H y (.tuple ds) ∧ SeqAt.shaped d = true ∧ SeqAt.shaped (.tuple ds) = true ∧ Q (.bl (ds.any fun z => PyData.eqv z d)) H
def rNotInT (K : PySem.W.Frag) : R2 := fun x y H Q => ∃ d ds, Dp K H x d ∧ Dp K H y (.tuple ds) ∧ SeqAt.shaped d = true ∧ SeqAt.shaped (.tuple ds) = true ∧ Q (.bl (!ds.any fun z => PyData.eqv z d)) H
theorem room_inT {A : Around} {d : PyData} {xs : List PyData} (h : SeqAt.shaped d = true) (hu : A.units + 65 < cLine) : A.units + 1 + min (PyData.depthAll xs) d.depth < cLine := by
  have h1 := SeqAt.depth_of_shaped h
  omega
theorem op_inT (hu : X.A.units + 65 < cLine) : OpR X (compareOp .In) (rInT X.K) := fun pins s σ H x y v u Q I rx ry ⟨d, ds, hd, he, sd, se, q⟩ => by
  obtain ⟨as, r1⟩ := Dp.reads I d x v hd rx
  obtain ⟨bs, r2⟩ := Dp.reads I (.tuple ds) y u he ry
  exact SeqAt.in_tuple_reads r2 r1 (SeqAt.canLay_of_shaped se) (SeqAt.canLay_of_shaped sd) (room_inT sd hu) ⟨.bl _, H, I, rfl, q⟩
theorem op_notInT (hu : X.A.units + 65 < cLine) : OpR X (compareOp .NotIn) (rNotInT X.K) := fun pins s σ H x y v u Q I rx ry ⟨d, ds, hd, he, sd, se, q⟩ => by
  obtain ⟨as, r1⟩ := Dp.reads I d x v hd rx
  obtain ⟨bs, r2⟩ := Dp.reads I (.tuple ds) y u he ry
  exact SeqAt.notIn_tuple_reads r2 r1 (SeqAt.canLay_of_shaped se) (SeqAt.canLay_of_shaped sd) (room_inT sd hu) ⟨.bl _, H, I, rfl, q⟩
def rInU (K : PySem.W.Frag) : R2 := fun x y H Q => rInT K x y H Q ∨ rInD K x y H Q
def rNotInU (K : PySem.W.Frag) : R2 := fun x y H Q => rNotInT K x y H Q ∨ rNotInD K x y H Q
theorem op_inU {k : Nat} (hr : Room k X.A) : OpR X (compareOp .In) (rInU X.K) := (op_inT (by have := hr.un; omega)).or (op_inD (by have := hr.un; omega))
theorem op_notinU {k : Nat} (hr : Room k X.A) : OpR X (compareOp .NotIn) (rNotInU X.K) := (op_notInT (by have := hr.un; omega)).or (op_notInD (by have := hr.un; omega))
theorem any_py (x : D) : ∀ l : List D, (pyL l).any (fun z => PyData.eqv z x.py) = l.any fun z => D.eqv z x
  | [] => by rw [pyL]; rfl
  | d :: l => by rw [pyL, List.any_cons, List.any_cons, any_py x l]; rfl
theorem od_inT {x : D} {l : List D} (n m : Nat) (h1 : x.ok n = true) (h2 : (D.tup l).ok m = true) (hn : n ≤ 64 ∧ m ≤ 64) (h : Φ (.bl (l.any fun z => D.eqv z x))) : OD X (rInU X.K) x (.tup l) Φ := fun H v w Q d1 d2 k => by
  have e2 := dp_of d2 (D.ok_pl h2)
  have s2 := D.ok_shaped h2 hn.2
  rw [D.py] at e2 s2
  refine .inl ⟨_, _, dp_of d1 (D.ok_pl h1), e2, D.ok_shaped h1 hn.1, s2, ?_⟩
  rw [any_py]
  exact k _ _ H h (Kp.refl _ _) (.bl _)
theorem od_notinT {x : D} {l : List D} (n m : Nat) (h1 : x.ok n = true) (h2 : (D.tup l).ok m = true) (hn : n ≤ 64 ∧ m ≤ 64) (h : Φ (.bl (!l.any fun z => D.eqv z x))) : OD X (rNotInU X.K) x (.tup l) Φ := fun H v w Q d1 d2 k => by
  have e2 := dp_of d2 (D.ok_pl h2)
  have s2 := D.ok_shaped h2 hn.2
  rw [D.py] at e2 s2
  refine .inl ⟨_, _, dp_of d1 (D.ok_pl h1), e2, D.ok_shaped h1 hn.1, s2, ?_⟩
  rw [any_py]
  exact k _ _ H h (Kp.refl _ _) (.bl _)
theorem od_notinL {x : D} {l : List D} (n m : Nat) (h1 : x.ok n = true) (h2 : (D.lst l).ok m = true) (hn : n ≤ 64 ∧ m ≤ 64) (h : Φ (.bl (!l.any fun z => D.eqv z x))) : OD X (rNotInU X.K) x (.lst l) Φ := fun H v w Q d1 d2 k => by
  have e2 := dp_of d2 (D.ok_pl h2)
  have s2 := D.ok_shaped h2 hn.2
  rw [D.py] at e2 s2
  refine .inr ⟨_, _, dp_of d1 (D.ok_pl h1), e2, D.ok_shaped h1 hn.1, s2, ?_⟩
  rw [any_py]
  exact k _ _ H h (Kp.refl _ _) (.bl _)
theorem cd_tupleT {l : List D} (h : Φ (.tup l)) : CD X (rTupleQ X.K) [.tup l] Φ := fun H vs Q dl k => by
  cases dl with
  | cons h1 h2 =>
    cases h2
    cases h1 with
    | @tup a xs _ hs hl => exact ⟨a, xs, rfl, .inr ⟨hs, k _ _ H h (Kp.refl _ _) (.tup hs hl)⟩⟩
/-- membership in rows of words, of squares -/
theorem any_wd (l : List Int) (ws : List (List Int)) : (ws.map wd).any (fun z => D.eqv z (wd l)) = ws.contains l := by
  rw [Bool.eq_iff_iff, List.any_map, List.any_eq_true, List.contains_iff_mem]
  constructor
  · intro ⟨z, hz, e⟩
    have e : D.eqv (wd z) (wd l) = true := e
    rw [eqv_ww, decide_eq_true_iff] at e
    rw [← e]
    exact hz
  · intro h
    refine ⟨l, h, ?_⟩
    show D.eqv (wd l) (wd l) = true
    rw [eqv_ww]
    exact decide_eq_true rfl
theorem any_sq (l : List (List Int)) (ws : List (List (List Int))) : (ws.map sq).any (fun z => D.eqv z (sq l)) = ws.contains l := by
  rw [Bool.eq_iff_iff, List.any_map, List.any_eq_true, List.contains_iff_mem]
  constructor
  · intro ⟨z, hz, e⟩
    have e : D.eqv (sq z) (sq l) = true := e
    rw [eqv_qq, decide_eq_true_iff] at e
    rw [← e]
    exact hz
  · intro h
    refine ⟨l, h, ?_⟩
    show D.eqv (sq l) (sq l) = true
    rw [eqv_qq]
    exact decide_eq_true rfl
end
end Fr
end
-- FrW1
section
set_option Elab.async false
set_option linter.all false
set_option maxRecDepth 100000
/-! The walks: words. -/
namespace Fr
open PySem PySem.Spec PyProof.Rows L2
-- macros
local macro_rules | `(tactic| walk_at "side") => `(tactic| first | assumption | omega | rfl | decide)
local macro_rules | `(tactic| walk_at "cm") => `(tactic| first | exact .inl ⟨by omega, by omega⟩ | exact .inr ⟨by omega, by omega⟩)
local macro_rules | `(tactic| walk_at "len") => `(tactic| first | decide | (show _ ≤ sizeLine; simp only [List.length_cons, List.length_nil]; decide))
local macro_rules | `(tactic| walk_at "add") => `(tactic| first | refine od_addI ?_ | refine od_addT (by walk_at "side") ?_ | refine od_addL (by walk_at "side") ?_)
local macro_rules | `(tactic| walk_at "mul") => `(tactic| first | refine od_mulI (by walk_at "cm") ?_ | refine od_mulT (by walk_at "side") (by walk_at "side") (by walk_at "side") ?_)
local macro_rules | `(tactic| walk_at "ok") => `(tactic| first | assumption | (simp only [D.ok, okL, Bool.and_true, Bool.true_and]; first | done | assumption | decide))
local macro_rules | `(tactic| walk_at "eq") => `(tactic| first | refine od_eqII ?_ | refine od_eq 20 20 (by walk_at "ok") (by walk_at "ok") (by omega) ?_)
local macro_rules | `(tactic| walk_at "ne") => `(tactic| first | refine od_neII ?_ | refine od_ne 20 20 (by walk_at "ok") (by walk_at "ok") (by omega) ?_)
local macro_rules | `(tactic| walk_at "slice") => `(tactic| first | refine .inl ⟨_, rfl, ?_⟩ | refine .inr ⟨_, rfl, ?_⟩)
-- end macros
/-! ### what is said of words -/
/-- an int that is no bool -/
def isI : D → Bool
  | .int _ => true
  | _ => false
def btw (lo hi : Int) : D → Bool
  | .int i => decide (lo ≤ i) && decide (i ≤ hi)
  | _ => false
def isBit (d : D) : Bool := btw 0 1 d
def isBits : D → Bool
  | .tup l => l.all isBit
  | _ => false
def lenD : D → Int
  | .tup l => l.length
  | .lst l => l.length
  | _ => 0
def isSome (d : D) : Bool := isBits d && (decide (1 ≤ lenD d) && decide (lenD d ≤ 12))
def isWord (d : D) (n : Int) : Bool := isSome d && (lenD d == n)
section
variable {P : Program} {w : World} {K : PySem.W.Frag} {mg : Str → Option Value} {base : Heap}
def sp_is_integer : DSp := fun ds Φ _ => ∃ d, ds = [d] ∧ noObj d = true ∧ Φ (.bl (isI d))
theorem sc_is_integer : FnScope ["value"] ["value"] (defScope s_is_integer) := ⟨rfl, rfl, rfl, by decide +kernel, rfl, by decide +kernel, by decide +kernel⟩
theorem ok_is_integer (T : Tx K mg base) : Cal P w K mg base 1 "is_integer" sp_is_integer := by
  refine cal_of T 0 rfl rfl sc_is_integer (fun _ _ _ _ _ _ us hl => match us, hl with | [_], _ => rfl) (fun ds Φ Ψ ⟨d, h, _⟩ => by rw [h] <;> rfl) fun cdv A outer s H E _ hr ds Φ Ψ h => ?_
  obtain ⟨d, rfl, hn, hΦ⟩ := h
  refine dss_one (ds_ret (de_and (de_isT rfl (b_isinstance T) (by decide +kernel) rfl (b_int T) (by decide +kernel) kit_int (de_var 0 rfl (.inl rfl) rfl ⟨hn, _, rfl, fun e1 => ?_, fun e1 => ?_⟩))))
  · refine de_one (de_not (de_isT rfl (b_isinstance T) (by decide +kernel) rfl (b_bool T) (by decide +kernel) kit_bool (de_var 0 rfl (.inl rfl) rfl ⟨hn, _, rfl, ?_⟩)))
    cases d <;> first | exact hΦ | cases e1
  · cases d <;> first | exact hΦ | cases e1
def sp_is_between : DSp := fun ds Φ _ => ∃ d lo hi, ds = [d, .int lo, .int hi] ∧ noObj d = true ∧ Φ (.bl (btw lo hi d))
theorem sc_is_between : FnScope ["value", "low", "high"] ["value", "low", "high"] (defScope s_is_between) := ⟨rfl, rfl, rfl, by decide +kernel, rfl, by decide +kernel, by decide +kernel⟩
theorem ok_is_between (T : Tx K mg base) : Cal P w K mg base 2 "is_between" sp_is_between := by
  refine cal_of T 1 rfl rfl sc_is_between (fun _ _ _ _ _ _ us hl => match us, hl with | [_, _, _], _ => rfl) (fun ds Φ Ψ ⟨_, _, _, h, _⟩ => by rw [h] <;> rfl) fun cdv A outer s H E hcd hr ds Φ Ψ h => ?_
  obtain ⟨d, lo, hi, rfl, hn, hΦ⟩ := h
  refine dss_one (ds_ret ?_)
  refine de_and ?_
  refine de_call (ok_is_integer T) (hr.mono (by decide)) rfl ?_
  refine da_cons ?_
  refine de_var 0 rfl (.inl rfl) rfl ?_
  refine da_nil ?_
  refine ⟨d, rfl, hn, _, rfl, fun hb => ?_, fun hb => ?_⟩
  · cases d <;> first | cases hb | skip
    rename_i i
    refine de_one ?_
    refine de_le3 ?_
    refine de_var 1 rfl (.inl rfl) rfl ?_
    refine de_var 0 rfl (.inl rfl) rfl ?_
    refine ⟨_, _, rfl, rfl, fun hb => ?_, fun hb => ?_⟩
    · refine de_var 2 rfl (.inl rfl) rfl ?_
      refine ⟨_, rfl, ?_⟩
      have hΦ : Φ (.bl (decide (lo ≤ i) && decide (i ≤ hi))) := hΦ
      rw [decide_eq_true hb, Bool.true_and] at hΦ
      exact hΦ
    · have hΦ : Φ (.bl (decide (lo ≤ i) && decide (i ≤ hi))) := hΦ
      rw [decide_eq_false hb, Bool.false_and] at hΦ
      exact hΦ
  · cases d <;> first | exact hΦ | cases hb
def sp_is_bit : DSp := fun ds Φ _ => ∃ d, ds = [d] ∧ noObj d = true ∧ Φ (.bl (isBit d))
theorem sc_is_bit : FnScope ["value"] ["value"] (defScope s_is_bit) := ⟨rfl, rfl, rfl, by decide +kernel, rfl, by decide +kernel, by decide +kernel⟩
theorem ok_is_bit (T : Tx K mg base) : Cal P w K mg base 3 "is_bit" sp_is_bit := by
  refine cal_of T 2 rfl rfl sc_is_bit (fun _ _ _ _ _ _ us hl => match us, hl with | [_], _ => rfl) (fun ds Φ Ψ ⟨_, h, _⟩ => by rw [h] <;> rfl) fun cdv A outer s H E hcd hr ds Φ Ψ h => ?_
  obtain ⟨d, rfl, hn, hΦ⟩ := h
  refine dss_one (ds_ret ?_)
  refine de_call (ok_is_between T) (hr.mono (by decide)) rfl ?_
  refine da_cons ?_
  refine de_var 0 rfl (.inl rfl) rfl ?_
  refine da_cons ?_
  refine de_int ?_
  refine da_cons ?_
  refine de_int ?_
  refine da_nil ?_
  exact ⟨d, 0, 1, rfl, hn, hΦ⟩
theorem tup_of {d : D} (h : isTupB d = true) : ∃ l, d = .tup l := by
  cases d with
  | tup l => exact ⟨l, rfl⟩
  | _ => cases h
theorem map_at {α β : Type} {l : List α} {f : α → β} {j : Nat} {y : α} {e : β} (h1 : l[j]? = some y) (h2 : (l.map f)[j]? = some e) : e = f y := by
  rw [List.getElem?_map, h1] at h2
  cases h2
  rfl
def sp_is_bits : DSp := fun ds Φ _ => ∃ d, ds = [d] ∧ d.ok 9 = true ∧ Φ (.bl (isBits d))
theorem sc_is_bits : FnScope ["value"] ["value"] (defScope s_is_bits) := ⟨rfl, rfl, rfl, by decide +kernel, rfl, by decide +kernel, by decide +kernel⟩
theorem ok_is_bits (T : Tx K mg base) : Cal P w K mg base 5 "is_bits" sp_is_bits := by
  refine cal_of T 3 rfl rfl sc_is_bits (fun _ _ _ _ _ _ us hl => match us, hl with | [_], _ => rfl) (fun ds Φ Ψ ⟨_, h, _⟩ => by rw [h] <;> rfl) fun cdv A outer s H E hcd hr ds Φ Ψ h => ?_
  obtain ⟨d, rfl, hn, hΦ⟩ := h
  obtain ⟨t1, t2, t3⟩ := T.tab 0 rfl
  refine dss_one (ds_ret ?_)
  refine de_and ?_
  refine de_isT rfl (b_isinstance T) (by decide +kernel) rfl (b_tuple T) (by decide +kernel) kit_tup ?_
  refine de_var 0 rfl (.inl rfl) rfl ?_
  refine ⟨D.ok_obj hn, ?_⟩
  refine ⟨_, rfl, fun hb => ?_, fun hb => ?_⟩
  · obtain ⟨l, rfl⟩ := tup_of hb
    refine de_one ?_
    refine de_all (k := 3) (Ng := ["one"]) (cap := [none]) hr rfl (b_all T) (by decide +kernel) t1 t2 t3 hcd (show GenB ["value"] ["one"] (defScope s_is_bits) _ [none] from ⟨rfl, rfl, by decide +kernel, rfl, by decide +kernel, by decide +kernel, rfl, by decide +kernel⟩) ?_
    refine di_tup (de_var 0 rfl (.inl rfl) rfl ?_)
    refine ⟨l, rfl, l.map fun y => .bl (isBit y), ⟨by rw [List.length_map], fun j y e hy he A s H fp C code hA => ⟨_, dg_name 0 (show (["one"] : List Str).Nodup by decide +kernel) rfl (.inl rfl), Bck.one rfl, ?_⟩⟩, l.map isBit, by rw [List.map_map]; rfl, ?_⟩
    · rw [map_at hy he]
      refine de_call (ok_is_bit T) (hA.mono (by decide)) rfl ?_
      refine da_cons ?_
      refine de_var 0 rfl (.inl rfl) rfl ?_
      refine da_nil ?_
      rw [ok_tup, okL_iff] at hn
      exact ⟨y, rfl, D.ok_obj (hn y (List.mem_of_getElem? hy)), rfl⟩
    · rw [List.all_map]
      exact hΦ
  · cases d <;> first | exact hΦ | cases hb
end
end Fr
end
-- FrW2
section
set_option Elab.async false
set_option linter.all false
set_option maxRecDepth 100000
/-! The walks: words, squares. -/
namespace Fr
open PySem PySem.Spec PyProof.Rows L2
-- macros
local macro_rules | `(tactic| walk_at "side") => `(tactic| first | assumption | omega | rfl | decide)
local macro_rules | `(tactic| walk_at "cm") => `(tactic| first | exact .inl ⟨by omega, by omega⟩ | exact .inr ⟨by omega, by omega⟩)
local macro_rules | `(tactic| walk_at "len") => `(tactic| first | decide | (show _ ≤ sizeLine; simp only [List.length_cons, List.length_nil]; decide))
local macro_rules | `(tactic| walk_at "add") => `(tactic| first | refine od_addI ?_ | refine od_addT (by walk_at "side") ?_ | refine od_addL (by walk_at "side") ?_)
local macro_rules | `(tactic| walk_at "mul") => `(tactic| first | refine od_mulI (by walk_at "cm") ?_ | refine od_mulT (by walk_at "side") (by walk_at "side") (by walk_at "side") ?_)
local macro_rules | `(tactic| walk_at "ok") => `(tactic| first | assumption | (simp only [D.ok, okL, Bool.and_true, Bool.true_and]; first | done | assumption | decide))
local macro_rules | `(tactic| walk_at "eq") => `(tactic| first | refine od_eqII ?_ | refine od_eq 20 20 (by walk_at "ok") (by walk_at "ok") (by omega) ?_)
local macro_rules | `(tactic| walk_at "ne") => `(tactic| first | refine od_neII ?_ | refine od_ne 20 20 (by walk_at "ok") (by walk_at "ok") (by omega) ?_)
local macro_rules | `(tactic| walk_at "slice") => `(tactic| first | refine .inl ⟨_, rfl, ?_⟩ | refine .inr ⟨_, rfl, ?_⟩)
-- end macros
/-! ### what is said -/
def bnum (l : List Int) : Int := l.foldl (fun a b => 2 * a + b) 0
def par (l m : List Int) : Int := ((l.zip m).map fun p => Builtin.bitAnd p.1 p.2).sum % 2
def bitsI (l : List Int) : Prop := ∀ x ∈ l, x = 0 ∨ x = 1
def rowsW (d : D) (n : Int) : Bool := match d with
  | .tup l => l.all fun r => isWord r n
  | _ => false
def isMat (d : D) (n : Int) : Bool := isTupB d && ((lenD d == n) && rowsW d n)
def isSomeM (d : D) : Bool := isTupB d && ((decide (1 ≤ lenD d) && decide (lenD d ≤ 12)) && isMat d (lenD d))
theorem bits_isBits {l : List Int} (h : bitsI l) : isBits (wd l) = true := by
  show (l.map D.int).all isBit = true
  rw [List.all_eq_true]
  intro d hd
  obtain ⟨i, hi, rfl⟩ := List.mem_map.mp hd
  rcases h i hi with z | z <;> rw [z] <;> rfl
theorem bitAnd01 {x y : Int} (hx : x = 0 ∨ x = 1) (hy : y = 0 ∨ y = 1) : Builtin.bitAnd x y = x * y := by
  rcases hx with rfl | rfl <;> rcases hy with rfl | rfl <;> decide
theorem sum01 : ∀ {ns : List Int}, (∀ x ∈ ns, x = 0 ∨ x = 1) → 0 ≤ ns.sum ∧ ns.sum ≤ ns.length
  | [], _ => by simp
  | x :: ns, h => by
    have q := sum01 (ns := ns) fun y hy => h y (List.mem_cons_of_mem _ hy)
    have e := h x List.mem_cons_self
    rw [List.sum_cons, List.length_cons]
    omega
theorem fit01 {ns : List Int} (h : ∀ x ∈ ns, x = 0 ∨ x = 1) (hl : ns.length ≤ 1000) : ∀ (j : Nat) (i : Int), ns[j]? = some i → InLong i ∧ InLong (ns.take (j + 1)).sum := fun j i e => by
  have a := h i (List.mem_of_getElem? e)
  have b := sum01 (ns := ns.take (j + 1)) fun x hx => h x (List.mem_of_mem_take hx)
  have c : (ns.take (j + 1)).length ≤ ns.length := by rw [List.length_take]; omega
  unfold InLong
  constructor
  · rcases a with rfl | rfl <;> decide
  · omega
section
variable {P : Program} {w : World} {K : PySem.W.Frag} {mg : Str → Option Value} {base : Heap}
def sp_is_some_word : DSp := fun ds Φ _ => ∃ d, ds = [d] ∧ d.ok 9 = true ∧ Φ (.bl (isSome d))
theorem sc_is_some_word : FnScope ["value"] ["value"] (defScope s_is_some_word) := ⟨rfl, rfl, rfl, by decide +kernel, rfl, by decide +kernel, by decide +kernel⟩
theorem isBits_tup {d : D} (h : isBits d = true) : ∃ l, d = .tup l := by
  cases d with
  | tup l => exact ⟨l, rfl⟩
  | _ => cases h
theorem ok_is_some_word (T : Tx K mg base) : Cal P w K mg base 6 "is_some_word" sp_is_some_word := by
  refine cal_of T 4 rfl rfl sc_is_some_word (fun _ _ _ _ _ _ us hl => match us, hl with | [_], _ => rfl) (fun ds Φ Ψ ⟨_, h, _⟩ => by rw [h] <;> rfl) fun cdv A outer s H E hcd hr ds Φ Ψ h => ?_
  obtain ⟨d, rfl, hn, hΦ⟩ := h
  unfold isSome at hΦ
  refine dss_one (ds_ret ?_)
  refine de_and ?_
  refine de_call (ok_is_bits T) (hr.mono (by decide)) rfl ?_
  refine da_cons ?_
  refine de_var 0 rfl (.inl rfl) rfl ?_
  refine da_nil ?_
  refine ⟨d, rfl, hn, _, rfl, fun hb => ?_, fun hb => ?_⟩
  · obtain ⟨l, rfl⟩ := isBits_tup hb
    rw [hb, Bool.true_and] at hΦ
    refine de_one ?_
    refine de_le3 ?_
    refine de_int ?_
    refine de_callB call_len_seq rfl (b_len T) (by decide +kernel) ?_
    refine da_cons ?_
    refine de_var 0 rfl (.inl rfl) rfl ?_
    refine da_nil ?_
    refine cd_len rfl ?_
    refine ⟨_, _, rfl, rfl, fun hb => ?_, fun hb => ?_⟩
    · refine de_gint rfl (g_LONGEST T) ?_
      refine ⟨_, rfl, ?_⟩
      rw [show decide (1 ≤ lenD (.tup l)) = true from decide_eq_true hb, Bool.true_and] at hΦ
      exact hΦ
    · rw [show decide (1 ≤ lenD (.tup l)) = false from decide_eq_false hb, Bool.false_and] at hΦ
      exact hΦ
  · rw [hb, Bool.false_and] at hΦ
    exact hΦ
def sp_is_word : DSp := fun ds Φ _ => ∃ d n, ds = [d, .int n] ∧ d.ok 9 = true ∧ Φ (.bl (isWord d n))
theorem sc_is_word : FnScope ["value", "n"] ["value", "n"] (defScope s_is_word) := ⟨rfl, rfl, rfl, by decide +kernel, rfl, by decide +kernel, by decide +kernel⟩
theorem isSome_tup {d : D} (h : isSome d = true) : ∃ l, d = .tup l := isBits_tup (Bool.and_eq_true_iff.mp h).1
theorem ok_is_word (T : Tx K mg base) : Cal P w K mg base 7 "is_word" sp_is_word := by
  refine cal_of T 5 rfl rfl sc_is_word (fun _ _ _ _ _ _ us hl => match us, hl with | [_, _], _ => rfl) (fun ds Φ Ψ ⟨_, _, h, _⟩ => by rw [h] <;> rfl) fun cdv A outer s H E hcd hr ds Φ Ψ h => ?_
  obtain ⟨d, n, rfl, hn, hΦ⟩ := h
  unfold isWord at hΦ
  refine dss_one (ds_ret ?_)
  refine de_and ?_
  refine de_call (ok_is_some_word T) (hr.mono (by decide)) rfl ?_
  refine da_cons ?_
  refine de_var 0 rfl (.inl rfl) rfl ?_
  refine da_nil ?_
  refine ⟨d, rfl, hn, _, rfl, fun hb => ?_, fun hb => ?_⟩
  · obtain ⟨l, rfl⟩ := isSome_tup hb
    rw [hb, Bool.true_and] at hΦ
    refine de_one ?_
    refine de_cmpO (op_eqD hr.units) rfl ?_
    refine de_callB call_len_seq rfl (b_len T) (by decide +kernel) ?_
    refine da_cons ?_
    refine de_var 0 rfl (.inl rfl) rfl ?_
    refine da_nil ?_
    refine cd_len rfl ?_
    refine de_var 1 rfl (.inl rfl) rfl ?_
    walk_at "eq"
    exact hΦ
  · rw [hb, Bool.false_and] at hΦ
    exact hΦ
theorem bnum_step {l : List Int} {j : Nat} {x : Int} (h : l[j]? = some x) : bnum (l.take (j + 1)) = 2 * bnum (l.take j) + x := by
  unfold bnum
  rw [take_next h, List.foldl_append]
  rfl
def sp_bits_number : DSp := fun ds Φ _ => ∃ l : List Int, ds = [wd l] ∧ Φ (.int (bnum l))
theorem sc_bits_number : FnScope ["bits", "number", "bit"] ["bits"] (defScope s_bits_number) := ⟨rfl, rfl, rfl, by decide +kernel, rfl, by decide +kernel, by decide +kernel⟩
theorem ok_bits_number (T : Tx K mg base) : Cal P w K mg base 1 "bits_number" sp_bits_number := by
  refine cal_of T 6 rfl rfl sc_bits_number (fun _ _ _ _ _ _ us hl => match us, hl with | [_], _ => rfl) (fun ds Φ Ψ ⟨_, h, _⟩ => by rw [h] <;> rfl) fun cdv A outer s H E hcd hr ds Φ Ψ h => ?_
  have sc := sc_bits_number
  obtain ⟨l, rfl, hΦ⟩ := h
  refine dss_cons (ds_set 1 sc.nd rfl (.inl rfl) ?_)
  refine de_int ?_
  refine dss_cons (ds_forT 2 rfl (passes_of rfl) sc.nd rfl (.inl rfl) ?_)
  refine de_var 0 rfl (.inl rfl) rfl ?_
  refine ⟨_, rfl, fun j δ' => ∃ z, δ' = [.v (wd l), .v (.int (bnum (l.take j))), z] ∧ vO [z] = true, fun j δ' ⟨z, e, hz⟩ => by rw [e]; exact hz, ⟨.no, rfl, rfl⟩, fun j y δ' hy ⟨z, e, hz⟩ => ?_, fun δ' ⟨z, e, hz⟩ => ?_⟩
  · subst e
    rw [List.getElem?_map] at hy
    cases hx : l[j]? with
    | none => rw [hx] at hy; cases hy
    | some x =>
      rw [hx] at hy
      cases hy
      refine dss_one (ds_set 1 sc.nd rfl (.inl rfl) ?_)
      refine de_op op_addU ?_
      refine de_op op_mulU ?_
      refine de_int ?_
      refine de_var 1 rfl (.inl rfl) rfl ?_
      walk_at "mul"
      refine de_var 2 rfl (.inl rfl) rfl ?_
      walk_at "add"
      exact ⟨.v (.int x), by rw [bnum_step hx]; rfl, rfl⟩
  · subst e
    refine dss_one (ds_ret ?_)
    refine de_var 1 rfl (.inl rfl) rfl ?_
    rw [List.length_map, List.take_length]
    exact hΦ
/-! ### pairs of words -/
theorem isSome_len {d : D} (h : isSome d = true) : 1 ≤ lenD d ∧ lenD d ≤ 12 := by
  have q := (Bool.and_eq_true_iff.mp h).2
  rw [Bool.and_eq_true, decide_eq_true_iff, decide_eq_true_iff] at q
  exact q
def sp_check_words : DSp := fun ds Φ _ => ∃ a b, ds = [a, b] ∧ a.ok 9 = true ∧ b.ok 9 = true ∧ isSome a = true ∧ isSome b = true ∧ lenD a = lenD b ∧ Φ .non
theorem sc_check_words : FnScope ["one", "other"] ["one", "other"] (defScope s_check_words) := ⟨rfl, rfl, rfl, by decide +kernel, rfl, by decide +kernel, by decide +kernel⟩
theorem ok_check_words (T : Tx K mg base) : Cal P w K mg base 7 "check_words" sp_check_words := by
  refine cal_of T 7 rfl rfl sc_check_words (fun _ _ _ _ _ _ us hl => match us, hl with | [_, _], _ => rfl) (fun ds Φ Ψ ⟨_, _, h, _⟩ => by rw [h] <;> rfl) fun cdv A outer s H E hcd hr ds Φ Ψ h => ?_
  obtain ⟨a, b, rfl, ha, hb, sa, sb, hl, hΦ⟩ := h
  refine dss_cons (ds_if ?_)
  refine dt_not ?_
  refine dt_val (by intro _; rfl) ?_
  refine de_call (ok_is_some_word T) (hr.mono (by decide)) rfl ?_
  refine da_cons ?_
  refine de_var 0 rfl (.inl rfl) rfl ?_
  refine da_nil ?_
  refine ⟨a, rfl, ha, isBl_of ?_⟩
  rw [sa]
  refine ⟨fun z => (by cases z), fun _ => ?_⟩
  refine dss_nil ?_
  refine dss_cons (ds_if ?_)
  refine dt_W ?_
  refine dw_or ?_
  refine dt_not ?_
  refine dt_val (by intro _; rfl) ?_
  refine de_call (ok_is_some_word T) (hr.mono (by decide)) rfl ?_
  refine da_cons ?_
  refine de_var 1 rfl (.inl rfl) rfl ?_
  refine da_nil ?_
  refine ⟨b, rfl, hb, isBl_of ?_⟩
  rw [sb]
  refine ⟨fun z => (by cases z), fun _ => ?_⟩
  obtain ⟨l, rfl⟩ := isSome_tup sa
  obtain ⟨m, rfl⟩ := isSome_tup sb
  refine dw_one_or ?_
  refine dt_cmpO (op_neD hr.units) rfl ?_
  refine de_callB call_len_seq rfl (b_len T) (by decide +kernel) ?_
  refine da_cons ?_
  refine de_var 0 rfl (.inl rfl) rfl ?_
  refine da_nil ?_
  refine cd_len rfl ?_
  refine de_callB call_len_seq rfl (b_len T) (by decide +kernel) ?_
  refine da_cons ?_
  refine de_var 1 rfl (.inl rfl) rfl ?_
  refine da_nil ?_
  refine cd_len rfl ?_
  walk_at "ne"
  refine isBl_of ?_
  have hl : (l.length : Int) = m.length := hl
  rw [hl, beq_self_eq_true]
  refine ⟨fun z => (by cases z), fun _ => ?_⟩
  refine dss_nil ?_
  exact dss_nil hΦ
def sp_parity_of : DSp := fun ds Φ _ => ∃ l m : List Int, ds = [wd l, wd m] ∧ bitsI l ∧ bitsI m ∧ l.length ≤ 1000 ∧ Φ (.int (par l m))
theorem sc_parity_of : FnScope ["one", "other"] ["one", "other"] (defScope s_parity_of) := ⟨rfl, rfl, rfl, by decide +kernel, rfl, by decide +kernel, by decide +kernel⟩
theorem zip_at {l m : List Int} {j : Nat} {y : D} (h : (((l.map D.int).zip (m.map D.int)).map fun p => D.tup [p.1, p.2])[j]? = some y) : ∃ a b, (l.zip m)[j]? = some (a, b) ∧ y = .tup [.int a, .int b] := by
  rw [List.zip_map, List.map_map, List.getElem?_map] at h
  cases q : (l.zip m)[j]? with
  | none => rw [q] at h; cases h
  | some p =>
    rw [q] at h
    cases h
    exact ⟨p.1, p.2, rfl, rfl⟩
theorem ok_parity_of (T : Tx K mg base) : Cal P w K mg base 2 "parity_of" sp_parity_of := by
  refine cal_of T 8 rfl rfl sc_parity_of (fun _ _ _ _ _ _ us hl => match us, hl with | [_, _], _ => rfl) (fun ds Φ Ψ ⟨_, _, h, _⟩ => by rw [h] <;> rfl) fun cdv A outer s H E hcd hr ds Φ Ψ h => ?_
  obtain ⟨l, m, rfl, hl, hm, hz, hΦ⟩ := h
  obtain ⟨t1, t2, t3⟩ := T.tab 1 rfl
  refine dss_one (ds_ret ?_)
  refine de_op op_mod ?_
  refine de_sumG (k := 0) (Ng := ["first", "second"]) (cap := [none, none]) hr rfl (b_sum T) (by decide +kernel) t1 t2 t3 hcd (show GenB ["one", "other"] ["first", "second"] (defScope s_parity_of) _ [none, none] from ⟨rfl, rfl, by decide +kernel, rfl, by decide +kernel, by decide +kernel, rfl, by decide +kernel⟩) ?_
  refine di_zip rfl (b_zip T) ?_
  refine da_cons ?_
  refine de_var 0 rfl (.inl rfl) rfl ?_
  refine da_cons ?_
  refine de_var 1 rfl (.inl rfl) rfl ?_
  refine da_nil ?_
  refine ⟨_, _, rfl, (l.zip m).map fun p => .int (Builtin.bitAnd p.1 p.2), ⟨by simp, fun j y e hy he A s H fp C code hA => ?_⟩, (l.zip m).map fun p => Builtin.bitAnd p.1 p.2, by rw [List.map_map]; rfl, fit01 (fun x hx => ?_) (by rw [List.length_map, List.length_zip]; omega), ?_⟩
  · obtain ⟨a, b, hp, rfl⟩ := zip_at hy
    rw [map_at hp he]
    refine ⟨_, dg_pair 0 1 rfl (show (["first", "second"] : List Str).Nodup by decide +kernel) rfl rfl (.inl rfl) (.inl rfl), Bck.two rfl rfl, ?_⟩
    refine de_op op_and ?_
    refine de_var 0 rfl (.inl rfl) rfl ?_
    refine de_var 1 rfl (.inl rfl) rfl ?_
    exact od_andI rfl
  · obtain ⟨p, hp, rfl⟩ := List.mem_map.mp hx
    have q := List.of_mem_zip hp
    rw [bitAnd01 (hl _ q.1) (hm _ q.2)]
    rcases hl _ q.1 with z | z <;> rcases hm _ q.2 with z' | z' <;> rw [z, z'] <;> decide
  · refine de_int ?_
    refine od_modI (by decide) ?_
    exact hΦ
theorem wd_some {l : List Int} (h : bitsI l) (h1 : 1 ≤ l.length) (h2 : l.length ≤ 12) : isSome (wd l) = true := by
  unfold isSome
  rw [bits_isBits h, Bool.true_and]
  have e : lenD (wd l) = (l.length : Int) := by
    show (((l.map D.int).length : Nat) : Int) = _
    rw [List.length_map]
  rw [e, Bool.and_eq_true, decide_eq_true_iff, decide_eq_true_iff]
  omega
theorem lenD_wd (l : List Int) : lenD (wd l) = (l.length : Int) := by
  show (((l.map D.int).length : Nat) : Int) = _
  rw [List.length_map]
theorem wd_word {l : List Int} {n : Int} (h : bitsI l) (h1 : 1 ≤ l.length) (h2 : l.length ≤ 12) (hn : (l.length : Int) = n) : isWord (wd l) n = true := by
  unfold isWord
  rw [wd_some h h1 h2, lenD_wd, hn, beq_self_eq_true]
  rfl
def sp_product_of : DSp := fun ds Φ _ => ∃ l m : List Int, ds = [wd l, wd m] ∧ bitsI l ∧ bitsI m ∧ 1 ≤ l.length ∧ l.length ≤ 12 ∧ m.length = l.length ∧ Φ (.int (par l m))
theorem sc_product_of : FnScope ["one", "other"] ["one", "other"] (defScope s_product_of) := ⟨rfl, rfl, rfl, by decide +kernel, rfl, by decide +kernel, by decide +kernel⟩
theorem ok_product_of (T : Tx K mg base) : Cal P w K mg base 8 "product_of" sp_product_of := by
  refine cal_of T 9 rfl rfl sc_product_of (fun _ _ _ _ _ _ us hl => match us, hl with | [_, _], _ => rfl) (fun ds Φ Ψ ⟨_, _, h, _⟩ => by rw [h] <;> rfl) fun cdv A outer s H E hcd hr ds Φ Ψ h => ?_
  obtain ⟨l, m, rfl, hl, hm, h1, h2, h3, hΦ⟩ := h
  refine dss_cons (ds_expr ?_)
  refine de_call (ok_check_words T) (hr.mono (by decide)) rfl ?_
  refine da_cons ?_
  refine de_var 0 rfl (.inl rfl) rfl ?_
  refine da_cons ?_
  refine de_var 1 rfl (.inl rfl) rfl ?_
  refine da_nil ?_
  refine ⟨_, _, rfl, ok_wd l 8, ok_wd m 8, wd_some hl h1 h2, wd_some hm (by omega) (by omega), by rw [lenD_wd, lenD_wd, h3], ?_⟩
  refine dss_one (ds_ret ?_)
  refine de_call (ok_parity_of T) (hr.mono (by decide)) rfl ?_
  refine da_cons ?_
  refine de_var 0 rfl (.inl rfl) rfl ?_
  refine da_cons ?_
  refine de_var 1 rfl (.inl rfl) rfl ?_
  refine da_nil ?_
  exact ⟨l, m, rfl, hl, hm, by omega, hΦ⟩
def sp_number_of : DSp := fun ds Φ _ => ∃ l : List Int, ds = [wd l] ∧ bitsI l ∧ 1 ≤ l.length ∧ l.length ≤ 12 ∧ Φ (.int (bnum l))
theorem sc_number_of : FnScope ["word"] ["word"] (defScope s_number_of) := ⟨rfl, rfl, rfl, by decide +kernel, rfl, by decide +kernel, by decide +kernel⟩
theorem ok_number_of (T : Tx K mg base) : Cal P w K mg base 7 "number_of" sp_number_of := by
  refine cal_of T 10 rfl rfl sc_number_of (fun _ _ _ _ _ _ us hl => match us, hl with | [_], _ => rfl) (fun ds Φ Ψ ⟨_, h, _⟩ => by rw [h] <;> rfl) fun cdv A outer s H E hcd hr ds Φ Ψ h => ?_
  obtain ⟨l, rfl, hl, h1, h2, hΦ⟩ := h
  refine dss_cons (ds_if ?_)
  refine dt_not ?_
  refine dt_val (by intro _; rfl) ?_
  refine de_call (ok_is_some_word T) (hr.mono (by decide)) rfl ?_
  refine da_cons ?_
  refine de_var 0 rfl (.inl rfl) rfl ?_
  refine da_nil ?_
  refine ⟨_, rfl, ok_wd l 8, isBl_of ?_⟩
  rw [wd_some hl h1 h2]
  refine ⟨fun z => (by cases z), fun _ => ?_⟩
  refine dss_nil ?_
  refine dss_one (ds_ret ?_)
  refine de_call (ok_bits_number T) (hr.mono (by decide)) rfl ?_
  refine da_cons ?_
  refine de_var 0 rfl (.inl rfl) rfl ?_
  refine da_nil ?_
  exact ⟨l, rfl, hΦ⟩
def sp_zero_word : DSp := fun ds Φ _ => ∃ n : Int, ds = [.int n] ∧ 2 ≤ n ∧ n ≤ 1000 ∧ Φ (wd (List.replicate n.toNat 0))
theorem sc_zero_word : FnScope ["n"] ["n"] (defScope s_zero_word) := ⟨rfl, rfl, rfl, by decide +kernel, rfl, by decide +kernel, by decide +kernel⟩
theorem flat_rep (n : Nat) : (List.replicate n [D.int 0]).flatten = (List.replicate n (0 : Int)).map D.int := by
  induction n with
  | zero => rfl
  | succ n ih => rw [List.replicate_succ, List.flatten_cons, ih, List.replicate_succ]; rfl
theorem ok_zero_word (T : Tx K mg base) : Cal P w K mg base 1 "zero_word" sp_zero_word := by
  refine cal_of T 11 rfl rfl sc_zero_word (fun _ _ _ _ _ _ us hl => match us, hl with | [_], _ => rfl) (fun ds Φ Ψ ⟨_, h, _⟩ => by rw [h] <;> rfl) fun cdv A outer s H E hcd hr ds Φ Ψ h => ?_
  obtain ⟨n, rfl, h1, h2, hΦ⟩ := h
  refine dss_one (ds_ret ?_)
  refine de_op op_mulU ?_
  refine de_tup ?_
  refine da_cons ?_
  refine de_int ?_
  refine da_nil ?_
  refine ⟨by walk_at "len", ?_⟩
  refine de_var 0 rfl (.inl rfl) rfl ?_
  refine od_mulT (by simp) ⟨h1, h2⟩ (by simp) ?_
  rw [flat_rep]
  exact hΦ
end
end Fr
end
-- FrW3
section
set_option Elab.async false
set_option linter.all false
set_option maxRecDepth 100000
/-! The walks: squares. -/
namespace Fr
open PySem PySem.Spec PyProof.Rows L2
-- macros
local macro_rules | `(tactic| walk_at "side") => `(tactic| first | assumption | omega | rfl | decide)
local macro_rules | `(tactic| walk_at "cm") => `(tactic| first | exact .inl ⟨by omega, by omega⟩ | exact .inr ⟨by omega, by omega⟩)
local macro_rules | `(tactic| walk_at "len") => `(tactic| first | decide | (show _ ≤ sizeLine; simp only [List.length_cons, List.length_nil]; decide))
local macro_rules | `(tactic| walk_at "add") => `(tactic| first | refine od_addI ?_ | refine od_addT (by walk_at "side") ?_ | refine od_addL (by walk_at "side") ?_)
local macro_rules | `(tactic| walk_at "mul") => `(tactic| first | refine od_mulI (by walk_at "cm") ?_ | refine od_mulT (by walk_at "side") (by walk_at "side") (by walk_at "side") ?_)
local macro_rules | `(tactic| walk_at "ok") => `(tactic| first | assumption | (simp only [D.ok, okL, Bool.and_true, Bool.true_and]; first | done | assumption | decide))
local macro_rules | `(tactic| walk_at "eq") => `(tactic| first | refine od_eqII ?_ | refine od_eq 20 20 (by walk_at "ok") (by walk_at "ok") (by omega) ?_)
local macro_rules | `(tactic| walk_at "ne") => `(tactic| first | refine od_neII ?_ | refine od_ne 20 20 (by walk_at "ok") (by walk_at "ok") (by omega) ?_)
local macro_rules | `(tactic| walk_at "slice") => `(tactic| first | refine .inl ⟨_, rfl, ?_⟩ | refine .inr ⟨_, rfl, ?_⟩)
-- end macros
/-! ### what is said -/
structure WdI (n : Nat) (l : List Int) : Prop where
  len : l.length = n
  bits : bitsI l
structure SqI (n : Nat) (L : List (List Int)) : Prop where
  len : L.length = n
  rows : ∀ r ∈ L, WdI n r
def sqpar (L M : List (List Int)) : Int := ((L.zip M).map fun p => par p.1 p.2).sum % 2
theorem par01 (l m : List Int) : par l m = 0 ∨ par l m = 1 := by
  unfold par
  exact Int.emod_two_eq _
theorem lenD_sq (L : List (List Int)) : lenD (sq L) = (L.length : Int) := by
  show (((L.map wd).length : Nat) : Int) = _
  rw [List.length_map]
theorem sq_isMat {n : Nat} {L : List (List Int)} (h : SqI n L) (h1 : 1 ≤ n) (h2 : n ≤ 12) : isMat (sq L) n = true := by
  unfold isMat
  rw [lenD_sq, h.len, beq_self_eq_true]
  show (L.map wd).all (fun r => isWord r n) = true
  rw [List.all_eq_true]
  intro d hd
  obtain ⟨r, hr, rfl⟩ := List.mem_map.mp hd
  have q := h.rows r hr
  exact wd_word q.bits (by rw [q.len]; exact h1) (by rw [q.len]; exact h2) (by rw [q.len])
theorem sq_isSomeM {n : Nat} {L : List (List Int)} (h : SqI n L) (h1 : 1 ≤ n) (h2 : n ≤ 12) : isSomeM (sq L) = true := by
  unfold isSomeM
  rw [lenD_sq, h.len, sq_isMat h h1 h2]
  have a : decide (1 ≤ (n : Int)) = true := decide_eq_true (by omega)
  have b : decide ((n : Int) ≤ 12) = true := decide_eq_true (by omega)
  rw [a, b]
  rfl
theorem ok_of_tup {l : List D} {n : Nat} (h : (D.tup l).ok (n + 1) = true) : ∀ y ∈ l, y.ok (n + 1) = true := fun y hy => by
  rw [ok_tup, okL_iff] at h
  exact D.ok_mono (h y hy) (by omega)
section
variable {P : Program} {w : World} {K : PySem.W.Frag} {mg : Str → Option Value} {base : Heap}
def sp_is_matrix : DSp := fun ds Φ _ => ∃ d n, ds = [d, .int n] ∧ d.ok 9 = true ∧ Φ (.bl (isMat d n))
theorem sc_is_matrix : FnScope ["value", "n"] ["value", "n"] (defScope s_is_matrix) := ⟨rfl, rfl, rfl, by decide +kernel, rfl, by decide +kernel, by decide +kernel⟩
theorem ok_is_matrix (T : Tx K mg base) : Cal P w K mg base 9 "is_matrix" sp_is_matrix := by
  refine cal_of T 12 rfl rfl sc_is_matrix (fun _ _ _ _ _ _ us hl => match us, hl with | [_, _], _ => rfl) (fun ds Φ Ψ ⟨_, _, h, _⟩ => by rw [h] <;> rfl) fun cdv A outer s H E hcd hr ds Φ Ψ h => ?_
  obtain ⟨d, n, rfl, hn, hΦ⟩ := h
  obtain ⟨t1, t2, t3⟩ := T.tab 2 rfl
  unfold isMat at hΦ
  refine dss_one (ds_ret ?_)
  refine de_and ?_
  refine de_isT rfl (b_isinstance T) (by decide +kernel) rfl (b_tuple T) (by decide +kernel) kit_tup ?_
  refine de_var 0 rfl (.inl rfl) rfl ?_
  refine ⟨D.ok_obj hn, ?_⟩
  refine ⟨_, rfl, fun hb => ?_, fun hb => ?_⟩
  · obtain ⟨l, rfl⟩ := tup_of hb
    rw [hb, Bool.true_and] at hΦ
    refine de_and ?_
    refine de_cmpO (op_eqD hr.units) rfl ?_
    refine de_callB call_len_seq rfl (b_len T) (by decide +kernel) ?_
    refine da_cons ?_
    refine de_var 0 rfl (.inl rfl) rfl ?_
    refine da_nil ?_
    refine cd_len rfl ?_
    refine de_var 1 rfl (.inr (.inl rfl)) rfl ?_
    walk_at "eq"
    refine ⟨_, rfl, fun hb => ?_, fun hb => ?_⟩
    · rw [show (lenD (.tup l) == n) = true from hb, Bool.true_and] at hΦ
      refine de_one ?_
      refine de_all (k := 7) (Ng := ["row", "n"]) (cap := [none, some 1]) hr rfl (b_all T) (by decide +kernel) t1 t2 t3 hcd (show GenB ["value", "n"] ["row", "n"] (defScope s_is_matrix) _ [none, some 1] from ⟨rfl, rfl, by decide +kernel, rfl, by decide +kernel, by decide +kernel, rfl, by decide +kernel⟩) ?_
      refine di_tup (de_var 0 rfl (.inl rfl) rfl ?_)
      refine ⟨l, rfl, l.map fun y => .bl (isWord y n), ⟨by rw [List.length_map], fun j y e hy he A s H fp C code hA => ⟨_, dg_name 0 (show (["row", "n"] : List Str).Nodup by decide +kernel) rfl (.inl rfl), Bck.one rfl, ?_⟩⟩, l.map fun y => isWord y n, by rw [List.map_map]; rfl, ?_⟩
      · rw [map_at hy he]
        refine de_call (ok_is_word T) hA rfl ?_
        refine da_cons ?_
        refine de_var 0 rfl (.inl rfl) rfl ?_
        refine da_cons ?_
        refine de_var 1 rfl (.inr (.inr rfl)) rfl ?_
        refine da_nil ?_
        exact ⟨y, n, rfl, ok_of_tup hn y (List.mem_of_getElem? hy), rfl⟩
      · rw [List.all_map]
        exact hΦ
    · rw [show (lenD (.tup l) == n) = false from hb, Bool.false_and] at hΦ
      exact hΦ
  · rw [hb, Bool.false_and] at hΦ
    exact hΦ
def sp_is_some_matrix : DSp := fun ds Φ _ => ∃ d, ds = [d] ∧ d.ok 9 = true ∧ Φ (.bl (isSomeM d))
theorem sc_is_some_matrix : FnScope ["value"] ["value"] (defScope s_is_some_matrix) := ⟨rfl, rfl, rfl, by decide +kernel, rfl, by decide +kernel, by decide +kernel⟩
theorem ok_is_some_matrix (T : Tx K mg base) : Cal P w K mg base 10 "is_some_matrix" sp_is_some_matrix := by
  refine cal_of T 13 rfl rfl sc_is_some_matrix (fun _ _ _ _ _ _ us hl => match us, hl with | [_], _ => rfl) (fun ds Φ Ψ ⟨_, h, _⟩ => by rw [h] <;> rfl) fun cdv A outer s H E hcd hr ds Φ Ψ h => ?_
  obtain ⟨d, rfl, hn, hΦ⟩ := h
  unfold isSomeM at hΦ
  refine dss_one (ds_ret ?_)
  refine de_and ?_
  refine de_isT rfl (b_isinstance T) (by decide +kernel) rfl (b_tuple T) (by decide +kernel) kit_tup ?_
  refine de_var 0 rfl (.inl rfl) rfl ?_
  refine ⟨D.ok_obj hn, ?_⟩
  refine ⟨_, rfl, fun hb => ?_, fun hb => ?_⟩
  · obtain ⟨l, rfl⟩ := tup_of hb
    rw [hb, Bool.true_and] at hΦ
    refine de_and ?_
    refine DE.imp (Φ := fun d => d = .bl (decide (1 ≤ lenD (.tup l)) && decide (lenD (.tup l) ≤ 12))) ?_ fun d hd => ?_
    · refine de_le3 ?_
      refine de_int ?_
      refine de_callB call_len_seq rfl (b_len T) (by decide +kernel) ?_
      refine da_cons ?_
      refine de_var 0 rfl (.inl rfl) rfl ?_
      refine da_nil ?_
      refine cd_len rfl ?_
      refine ⟨_, _, rfl, rfl, fun hb => ?_, fun hb => ?_⟩
      · refine de_gint rfl (g_LONGEST T) ?_
        refine ⟨_, rfl, ?_⟩
        rw [show decide (1 ≤ lenD (.tup l)) = true from decide_eq_true hb, Bool.true_and]
        rfl
      · rw [show decide (1 ≤ lenD (.tup l)) = false from decide_eq_false hb, Bool.false_and]
    · subst hd
      refine ⟨_, rfl, fun hc => ?_, fun hc => ?_⟩
      · rw [hc, Bool.true_and] at hΦ
        refine de_one ?_
        refine de_call (ok_is_matrix T) hr rfl ?_
        refine da_cons ?_
        refine de_var 0 rfl (.inl rfl) rfl ?_
        refine da_cons ?_
        refine de_callB call_len_seq rfl (b_len T) (by decide +kernel) ?_
        refine da_cons ?_
        refine de_var 0 rfl (.inl rfl) rfl ?_
        refine da_nil ?_
        refine cd_len rfl ?_
        refine da_nil ?_
        exact ⟨_, _, rfl, hn, hΦ⟩
      · rw [hc, Bool.false_and] at hΦ
        exact hΦ
  · rw [hb, Bool.false_and] at hΦ
    exact hΦ
def sp_square_from : DSp := fun ds Φ _ => ∃ (l : List Int) (o : D), ds = [wd l, o] ∧ 2 ≤ l.length ∧ l.length ≤ 12 ∧ Φ (.tup (l.map fun b => if b = 1 then o else wd (List.replicate l.length 0)))
theorem sc_square_from : FnScope ["one", "other", "zero"] ["one", "other"] (defScope s_square_from) := ⟨rfl, rfl, rfl, by decide +kernel, rfl, by decide +kernel, by decide +kernel⟩
theorem ok_square_from (T : Tx K mg base) : Cal P w K mg base 2 "square_from" sp_square_from := by
  refine cal_of T 14 rfl rfl sc_square_from (fun _ _ _ _ _ _ us hl => match us, hl with | [_, _], _ => rfl) (fun ds Φ Ψ ⟨_, _, h, _⟩ => by rw [h] <;> rfl) fun cdv A outer s H E hcd hr ds Φ Ψ h => ?_
  obtain ⟨l, o, rfl, h1, h2, hΦ⟩ := h
  obtain ⟨t1, t2, t3⟩ := T.tab 3 rfl
  have sc := sc_square_from
  refine dss_cons (ds_set 2 sc.nd rfl (.inr rfl) ?_)
  refine de_call (ok_zero_word T) hr rfl ?_
  refine da_cons ?_
  refine de_callB call_len_seq rfl (b_len T) (by decide +kernel) ?_
  refine da_cons ?_
  refine de_var 0 rfl (.inl rfl) rfl ?_
  refine da_nil ?_
  refine cd_len rfl ?_
  refine da_nil ?_
  rw [List.length_map]
  refine ⟨_, rfl, by omega, by omega, ?_⟩
  rw [Int.toNat_natCast]
  refine dss_one (ds_ret ?_)
  refine de_tupG (k := 0) (Ng := ["bit", "other", "zero"]) (cap := [none, some 1, some 2]) hr rfl (b_tuple T) (by decide +kernel) t1 t2 t3 hcd (show GenB ["one", "other", "zero"] ["bit", "other", "zero"] (defScope s_square_from) _ [none, some 1, some 2] from ⟨rfl, rfl, by decide +kernel, rfl, by decide +kernel, by decide +kernel, rfl, by decide +kernel⟩) ?_
  refine di_tup (de_var 0 rfl (.inl rfl) rfl ?_)
  refine ⟨_, rfl, l.map fun b => if b = 1 then o else wd (List.replicate l.length 0), ⟨by rw [List.length_map, List.length_map], fun j y e hy he A s H fp C code hA => ⟨_, dg_name 0 (show (["bit", "other", "zero"] : List Str).Nodup by decide +kernel) rfl (.inl rfl), Bck.one rfl, ?_⟩⟩, ?_, hΦ⟩
  · rw [List.getElem?_map] at hy
    cases hx : l[j]? with
    | none => rw [hx] at hy; cases hy
    | some b =>
      rw [hx] at hy
      cases hy
      rw [map_at hx he]
      refine de_if ?_
      refine dt_cmpO (op_eqD hA.units) rfl ?_
      refine de_var 0 rfl (.inl rfl) rfl ?_
      refine de_int ?_
      walk_at "eq"
      refine isBl_of ⟨fun hb => ?_, fun hb => ?_⟩
      · refine de_var 1 rfl (.inr (.inr rfl)) rfl ?_
        rw [if_pos (by simpa using hb)]
      · refine de_var 2 rfl (.inr (.inr rfl)) rfl ?_
        rw [if_neg (by simpa using hb)]
  · rw [List.length_map]
    exact Nat.le_trans h2 (by decide)
def sp_square_of : DSp := fun ds Φ _ => ∃ l m : List Int, ds = [wd l, wd m] ∧ bitsI l ∧ bitsI m ∧ 2 ≤ l.length ∧ l.length ≤ 12 ∧ m.length = l.length ∧ Φ (.tup (l.map fun b => if b = 1 then wd m else wd (List.replicate l.length 0)))
theorem sc_square_of : FnScope ["one", "other"] ["one", "other"] (defScope s_square_of) := ⟨rfl, rfl, rfl, by decide +kernel, rfl, by decide +kernel, by decide +kernel⟩
theorem ok_square_of (T : Tx K mg base) : Cal P w K mg base 8 "square_of" sp_square_of := by
  refine cal_of T 15 rfl rfl sc_square_of (fun _ _ _ _ _ _ us hl => match us, hl with | [_, _], _ => rfl) (fun ds Φ Ψ ⟨_, _, h, _⟩ => by rw [h] <;> rfl) fun cdv A outer s H E hcd hr ds Φ Ψ h => ?_
  obtain ⟨l, m, rfl, hl, hm, h1, h2, h3, hΦ⟩ := h
  refine dss_cons (ds_expr ?_)
  refine de_call (ok_check_words T) hr rfl ?_
  refine da_cons ?_
  refine de_var 0 rfl (.inl rfl) rfl ?_
  refine da_cons ?_
  refine de_var 1 rfl (.inl rfl) rfl ?_
  refine da_nil ?_
  refine ⟨_, _, rfl, ok_wd l 8, ok_wd m 8, wd_some hl (by omega) h2, wd_some hm (by omega) (by omega), by rw [lenD_wd, lenD_wd, h3], ?_⟩
  refine dss_one (ds_ret ?_)
  refine de_call (ok_square_from T) (hr.mono (by decide)) rfl ?_
  refine da_cons ?_
  refine de_var 0 rfl (.inl rfl) rfl ?_
  refine da_cons ?_
  refine de_var 1 rfl (.inl rfl) rfl ?_
  refine da_nil ?_
  exact ⟨l, _, rfl, h1, h2, hΦ⟩
def sp_check_squares : DSp := fun ds Φ _ => ∃ a b, ds = [a, b] ∧ a.ok 9 = true ∧ b.ok 9 = true ∧ isSomeM a = true ∧ isSomeM b = true ∧ lenD a = lenD b ∧ Φ .non
theorem sc_check_squares : FnScope ["one", "other"] ["one", "other"] (defScope s_check_squares) := ⟨rfl, rfl, rfl, by decide +kernel, rfl, by decide +kernel, by decide +kernel⟩
theorem isSomeM_tup {d : D} (h : isSomeM d = true) : ∃ l, d = .tup l := tup_of (Bool.and_eq_true_iff.mp h).1
theorem ok_check_squares (T : Tx K mg base) : Cal P w K mg base 11 "check_squares" sp_check_squares := by
  refine cal_of T 16 rfl rfl sc_check_squares (fun _ _ _ _ _ _ us hl => match us, hl with | [_, _], _ => rfl) (fun ds Φ Ψ ⟨_, _, h, _⟩ => by rw [h] <;> rfl) fun cdv A outer s H E hcd hr ds Φ Ψ h => ?_
  obtain ⟨a, b, rfl, ha, hb, sa, sb, hl, hΦ⟩ := h
  refine dss_cons (ds_if ?_)
  refine dt_not ?_
  refine dt_val (by intro _; rfl) ?_
  refine de_call (ok_is_some_matrix T) hr rfl ?_
  refine da_cons ?_
  refine de_var 0 rfl (.inl rfl) rfl ?_
  refine da_nil ?_
  refine ⟨a, rfl, ha, isBl_of ?_⟩
  rw [sa]
  refine ⟨fun z => (by cases z), fun _ => ?_⟩
  refine dss_nil ?_
  refine dss_cons (ds_if ?_)
  refine dt_W ?_
  refine dw_or ?_
  refine dt_not ?_
  refine dt_val (by intro _; rfl) ?_
  refine de_call (ok_is_some_matrix T) hr rfl ?_
  refine da_cons ?_
  refine de_var 1 rfl (.inl rfl) rfl ?_
  refine da_nil ?_
  refine ⟨b, rfl, hb, isBl_of ?_⟩
  rw [sb]
  refine ⟨fun z => (by cases z), fun _ => ?_⟩
  obtain ⟨l, rfl⟩ := isSomeM_tup sa
  obtain ⟨m, rfl⟩ := isSomeM_tup sb
  refine dw_one_or ?_
  refine dt_cmpO (op_neD hr.units) rfl ?_
  refine de_callB call_len_seq rfl (b_len T) (by decide +kernel) ?_
  refine da_cons ?_
  refine de_var 0 rfl (.inl rfl) rfl ?_
  refine da_nil ?_
  refine cd_len rfl ?_
  refine de_callB call_len_seq rfl (b_len T) (by decide +kernel) ?_
  refine da_cons ?_
  refine de_var 1 rfl (.inl rfl) rfl ?_
  refine da_nil ?_
  refine cd_len rfl ?_
  walk_at "ne"
  refine isBl_of ?_
  have hl : (l.length : Int) = m.length := hl
  rw [hl, beq_self_eq_true]
  refine ⟨fun z => (by cases z), fun _ => ?_⟩
  refine dss_nil ?_
  exact dss_nil hΦ
def sp_square_parity : DSp := fun ds Φ _ => ∃ (n : Nat) (L M : List (List Int)), ds = [sq L, sq M] ∧ SqI n L ∧ SqI n M ∧ n ≤ 12 ∧ Φ (.int (sqpar L M))
theorem sc_square_parity : FnScope ["one", "other"] ["one", "other"] (defScope s_square_parity) := ⟨rfl, rfl, rfl, by decide +kernel, rfl, by decide +kernel, by decide +kernel⟩
theorem zip_at2 {l m : List (List Int)} {j : Nat} {y : D} (h : (((l.map wd).zip (m.map wd)).map fun p => D.tup [p.1, p.2])[j]? = some y) : ∃ a b, (l.zip m)[j]? = some (a, b) ∧ y = .tup [wd a, wd b] := by
  rw [List.zip_map, List.map_map, List.getElem?_map] at h
  cases q : (l.zip m)[j]? with
  | none => rw [q] at h; cases h
  | some p =>
    rw [q] at h
    cases h
    exact ⟨p.1, p.2, rfl, rfl⟩
theorem ok_square_parity (T : Tx K mg base) : Cal P w K mg base 4 "square_parity" sp_square_parity := by
  refine cal_of T 17 rfl rfl sc_square_parity (fun _ _ _ _ _ _ us hl => match us, hl with | [_, _], _ => rfl) (fun ds Φ Ψ ⟨_, _, _, h, _⟩ => by rw [h] <;> rfl) fun cdv A outer s H E hcd hr ds Φ Ψ h => ?_
  obtain ⟨n, L, M, rfl, hL, hM, hn, hΦ⟩ := h
  obtain ⟨t1, t2, t3⟩ := T.tab 4 rfl
  refine dss_one (ds_ret ?_)
  refine de_op op_mod ?_
  refine de_sumG (k := 2) (Ng := ["first", "second"]) (cap := [none, none]) hr rfl (b_sum T) (by decide +kernel) t1 t2 t3 hcd (show GenB ["one", "other"] ["first", "second"] (defScope s_square_parity) _ [none, none] from ⟨rfl, rfl, by decide +kernel, rfl, by decide +kernel, by decide +kernel, rfl, by decide +kernel⟩) ?_
  refine di_zip rfl (b_zip T) ?_
  refine da_cons ?_
  refine de_var 0 rfl (.inl rfl) rfl ?_
  refine da_cons ?_
  refine de_var 1 rfl (.inl rfl) rfl ?_
  refine da_nil ?_
  refine ⟨_, _, rfl, (L.zip M).map fun p => .int (par p.1 p.2), ⟨by simp, fun j y e hy he A s H fp C code hA => ?_⟩, (L.zip M).map fun p => par p.1 p.2, by rw [List.map_map]; rfl, fit01 (fun x hx => ?_) (by rw [List.length_map, List.length_zip, hL.len]; omega), ?_⟩
  · obtain ⟨a, b, hp, rfl⟩ := zip_at2 hy
    rw [map_at hp he]
    have q := List.of_mem_zip (List.mem_of_getElem? hp)
    refine ⟨_, dg_pair 0 1 rfl (show (["first", "second"] : List Str).Nodup by decide +kernel) rfl rfl (.inl rfl) (.inl rfl), Bck.two rfl rfl, ?_⟩
    refine de_call (ok_parity_of T) hA rfl ?_
    refine da_cons ?_
    refine de_var 0 rfl (.inl rfl) rfl ?_
    refine da_cons ?_
    refine de_var 1 rfl (.inl rfl) rfl ?_
    refine da_nil ?_
    exact ⟨a, b, rfl, (hL.rows a q.1).bits, (hM.rows b q.2).bits, by rw [(hL.rows a q.1).len]; omega, rfl⟩
  · obtain ⟨p, hp, rfl⟩ := List.mem_map.mp hx
    exact par01 _ _
  · refine de_int ?_
    refine od_modI (by decide) ?_
    exact hΦ
def sp_square_product : DSp := fun ds Φ _ => ∃ (n : Nat) (L M : List (List Int)), ds = [sq L, sq M] ∧ SqI n L ∧ SqI n M ∧ 1 ≤ n ∧ n ≤ 12 ∧ Φ (.int (sqpar L M))
theorem sc_square_product : FnScope ["one", "other"] ["one", "other"] (defScope s_square_product) := ⟨rfl, rfl, rfl, by decide +kernel, rfl, by decide +kernel, by decide +kernel⟩
theorem ok_square_product (T : Tx K mg base) : Cal P w K mg base 12 "square_product" sp_square_product := by
  refine cal_of T 18 rfl rfl sc_square_product (fun _ _ _ _ _ _ us hl => match us, hl with | [_, _], _ => rfl) (fun ds Φ Ψ ⟨_, _, _, h, _⟩ => by rw [h] <;> rfl) fun cdv A outer s H E hcd hr ds Φ Ψ h => ?_
  obtain ⟨n, L, M, rfl, hL, hM, h1, h2, hΦ⟩ := h
  refine dss_cons (ds_expr ?_)
  refine de_call (ok_check_squares T) hr rfl ?_
  refine da_cons ?_
  refine de_var 0 rfl (.inl rfl) rfl ?_
  refine da_cons ?_
  refine de_var 1 rfl (.inl rfl) rfl ?_
  refine da_nil ?_
  refine ⟨_, _, rfl, ok_sq L 7, ok_sq M 7, sq_isSomeM hL h1 h2, sq_isSomeM hM h1 h2, by rw [lenD_sq, lenD_sq, hL.len, hM.len], ?_⟩
  refine dss_one (ds_ret ?_)
  refine de_call (ok_square_parity T) (hr.mono (by decide)) rfl ?_
  refine da_cons ?_
  refine de_var 0 rfl (.inl rfl) rfl ?_
  refine da_cons ?_
  refine de_var 1 rfl (.inl rfl) rfl ?_
  refine da_nil ?_
  exact ⟨n, L, M, rfl, hL, hM, h2, hΦ⟩
end
end Fr
end
-- FrW4
section
set_option Elab.async false
set_option linter.all false
set_option maxRecDepth 100000
/-! The walks: is_square, rows_together, _are_bits. -/
namespace Fr
open PySem PySem.Spec PyProof.Rows L2
-- macros
local macro_rules | `(tactic| walk_at "side") => `(tactic| first | assumption | omega | rfl | decide)
local macro_rules | `(tactic| walk_at "cm") => `(tactic| first | exact .inl ⟨by omega, by omega⟩ | exact .inr ⟨by omega, by omega⟩)
local macro_rules | `(tactic| walk_at "len") => `(tactic| first | decide | (show _ ≤ sizeLine; simp only [List.length_cons, List.length_nil]; decide))
local macro_rules | `(tactic| walk_at "add") => `(tactic| first | refine od_addI ?_ | refine od_addT (by walk_at "side") ?_ | refine od_addL (by walk_at "side") ?_)
local macro_rules | `(tactic| walk_at "mul") => `(tactic| first | refine od_mulI (by walk_at "cm") ?_ | refine od_mulT (by walk_at "side") (by walk_at "side") (by walk_at "side") ?_)
local macro_rules | `(tactic| walk_at "ok") => `(tactic| first | assumption | (simp only [D.ok, okL, Bool.and_true, Bool.true_and]; first | done | assumption | decide))
local macro_rules | `(tactic| walk_at "eq") => `(tactic| first | refine od_eqII ?_ | refine od_eq 20 20 (by walk_at "ok") (by walk_at "ok") (by omega) ?_)
local macro_rules | `(tactic| walk_at "ne") => `(tactic| first | refine od_neII ?_ | refine od_ne 20 20 (by walk_at "ok") (by walk_at "ok") (by omega) ?_)
local macro_rules | `(tactic| walk_at "slice") => `(tactic| first | refine .inl ⟨_, rfl, ?_⟩ | refine .inr ⟨_, rfl, ?_⟩)
-- end macros
/-- a tuple of that many bits -/
def areB (d : D) (n : Int) : Bool := isTupB d && ((lenD d == n) && isBits d)
section
variable {P : Program} {w : World} {K : PySem.W.Frag} {mg : Str → Option Value} {base : Heap}
def sp_is_square : DSp := fun ds Φ _ => ∃ d n, ds = [d, .int n] ∧ d.ok 9 = true ∧ Φ (.bl (isMat d n))
theorem sc_is_square : FnScope ["value", "n"] ["value", "n"] (defScope s_is_square) := ⟨rfl, rfl, rfl, by decide +kernel, rfl, by decide +kernel, by decide +kernel⟩
theorem ok_is_square (T : Tx K mg base) : Cal P w K mg base 9 "is_square" sp_is_square := by
  refine cal_of T 19 rfl rfl sc_is_square (fun _ _ _ _ _ _ us hl => match us, hl with | [_, _], _ => rfl) (fun ds Φ Ψ ⟨_, _, h, _⟩ => by rw [h] <;> rfl) fun cdv A outer s H E hcd hr ds Φ Ψ h => ?_
  obtain ⟨d, n, rfl, hn, hΦ⟩ := h
  obtain ⟨t1, t2, t3⟩ := T.tab 5 rfl
  unfold isMat at hΦ
  refine dss_cons (ds_if ?_)
  refine dt_W ?_
  refine dw_or ?_
  refine dt_not ?_
  refine dt_val (by intro _; rfl) ?_
  refine de_isT rfl (b_isinstance T) (by decide +kernel) rfl (b_tuple T) (by decide +kernel) kit_tup ?_
  refine de_var 0 rfl (.inl rfl) rfl ?_
  refine ⟨D.ok_obj hn, isBl_of ⟨fun hb => ?_, fun hb => ?_⟩⟩
  · refine ⟨fun _ => ?_, fun z => (by cases z)⟩
    refine dss_one (ds_ret (de_bl ?_))
    have hb : isTupB d = false := by simpa using hb
    rw [hb, Bool.false_and] at hΦ
    exact hΦ
  · have hb : isTupB d = true := by simpa using hb
    obtain ⟨l, rfl⟩ := tup_of hb
    rw [hb, Bool.true_and] at hΦ
    refine dw_one_or ?_
    refine dt_cmpO (op_neD hr.units) rfl ?_
    refine de_callB call_len_seq rfl (b_len T) (by decide +kernel) ?_
    refine da_cons ?_
    refine de_var 0 rfl (.inl rfl) rfl ?_
    refine da_nil ?_
    refine cd_len rfl ?_
    refine de_var 1 rfl (.inr (.inl rfl)) rfl ?_
    walk_at "ne"
    refine isBl_of ⟨fun hb => ?_, fun hb => ?_⟩
    · refine dss_one (ds_ret (de_bl ?_))
      rw [show (lenD (.tup l) == n) = false from by simpa [lenD] using hb, Bool.false_and] at hΦ
      exact hΦ
    · rw [show (lenD (.tup l) == n) = true from by simpa [lenD] using hb, Bool.true_and] at hΦ
      refine dss_nil ?_
      refine dss_one (ds_ret ?_)
      refine de_all (k := 7) (Ng := ["row", "n"]) (cap := [none, some 1]) hr rfl (b_all T) (by decide +kernel) t1 t2 t3 hcd (show GenB ["value", "n"] ["row", "n"] (defScope s_is_square) _ [none, some 1] from ⟨rfl, rfl, by decide +kernel, rfl, by decide +kernel, by decide +kernel, rfl, by decide +kernel⟩) ?_
      refine di_tup (de_var 0 rfl (.inl rfl) rfl ?_)
      refine ⟨l, rfl, l.map fun y => .bl (isWord y n), ⟨by rw [List.length_map], fun j y e hy he A s H fp C code hA => ⟨_, dg_name 0 (show (["row", "n"] : List Str).Nodup by decide +kernel) rfl (.inl rfl), Bck.one rfl, ?_⟩⟩, l.map fun y => isWord y n, by rw [List.map_map]; rfl, ?_⟩
      · rw [map_at hy he]
        refine de_call (ok_is_word T) hA rfl ?_
        refine da_cons ?_
        refine de_var 0 rfl (.inl rfl) rfl ?_
        refine da_cons ?_
        refine de_var 1 rfl (.inr (.inr rfl)) rfl ?_
        refine da_nil ?_
        exact ⟨y, n, rfl, ok_of_tup hn y (List.mem_of_getElem? hy), rfl⟩
      · rw [List.all_map]
        exact hΦ
def sp__are_bits : DSp := fun ds Φ _ => ∃ d n, ds = [d, .int n] ∧ d.ok 9 = true ∧ Φ (.bl (areB d n))
theorem sc__are_bits : FnScope ["value", "many"] ["value", "many"] (defScope s_are_bits) := ⟨rfl, rfl, rfl, by decide +kernel, rfl, by decide +kernel, by decide +kernel⟩
theorem bit_and (y : D) : isBit y = (isIntB y && (!isBoolB y && isBit y)) := by
  cases y <;> rfl
theorem int_of {y : D} (h1 : isIntB y = true) (h2 : isBoolB y = false) : ∃ i, y = .int i := by
  cases y with
  | int i => exact ⟨i, rfl⟩
  | bl b => cases h2
  | _ => cases h1
theorem ok__are_bits (T : Tx K mg base) : Cal P w K mg base 2 "_are_bits" sp__are_bits := by
  refine cal_of T 21 rfl rfl sc__are_bits (fun _ _ _ _ _ _ us hl => match us, hl with | [_, _], _ => rfl) (fun ds Φ Ψ ⟨_, _, h, _⟩ => by rw [h] <;> rfl) fun cdv A outer s H E hcd hr ds Φ Ψ h => ?_
  obtain ⟨d, n, rfl, hn, hΦ⟩ := h
  obtain ⟨t1, t2, t3⟩ := T.tab 6 rfl
  unfold areB at hΦ
  refine dss_cons (ds_if ?_)
  refine dt_W ?_
  refine dw_or ?_
  refine dt_not ?_
  refine dt_val (by intro _; rfl) ?_
  refine de_isT rfl (b_isinstance T) (by decide +kernel) rfl (b_tuple T) (by decide +kernel) kit_tup ?_
  refine de_var 0 rfl (.inl rfl) rfl ?_
  refine ⟨D.ok_obj hn, isBl_of ⟨fun hb => ?_, fun hb => ?_⟩⟩
  · refine ⟨fun _ => ?_, fun z => (by cases z)⟩
    refine dss_one (ds_ret (de_bl ?_))
    have hb : isTupB d = false := by simpa using hb
    rw [hb, Bool.false_and] at hΦ
    exact hΦ
  · have hb : isTupB d = true := by simpa using hb
    obtain ⟨l, rfl⟩ := tup_of hb
    rw [hb, Bool.true_and] at hΦ
    refine dw_one_or ?_
    refine dt_cmpO (op_neD hr.units) rfl ?_
    refine de_callB call_len_seq rfl (b_len T) (by decide +kernel) ?_
    refine da_cons ?_
    refine de_var 0 rfl (.inl rfl) rfl ?_
    refine da_nil ?_
    refine cd_len rfl ?_
    refine de_var 1 rfl (.inl rfl) rfl ?_
    walk_at "ne"
    refine isBl_of ⟨fun hb => ?_, fun hb => ?_⟩
    · refine dss_one (ds_ret (de_bl ?_))
      rw [show (lenD (.tup l) == n) = false from by simpa [lenD] using hb, Bool.false_and] at hΦ
      exact hΦ
    · rw [show (lenD (.tup l) == n) = true from by simpa [lenD] using hb, Bool.true_and] at hΦ
      refine dss_nil ?_
      refine dss_one (ds_ret ?_)
      refine de_all (k := 0) (Ng := ["bit"]) (cap := [none]) hr rfl (b_all T) (by decide +kernel) t1 t2 t3 hcd (show GenB ["value", "many"] ["bit"] (defScope s_are_bits) _ [none] from ⟨rfl, rfl, by decide +kernel, rfl, by decide +kernel, by decide +kernel, rfl, by decide +kernel⟩) ?_
      refine di_tup (de_var 0 rfl (.inl rfl) rfl ?_)
      refine ⟨l, rfl, l.map fun y => .bl (isBit y), ⟨by rw [List.length_map], fun j y e hy he A s H fp C code hA => ⟨_, dg_name 0 (show (["bit"] : List Str).Nodup by decide +kernel) rfl (.inl rfl), Bck.one rfl, ?_⟩⟩, l.map isBit, by rw [List.map_map]; rfl, ?_⟩
      · rw [map_at hy he, bit_and]
        have hyo := D.ok_obj (ok_of_tup hn y (List.mem_of_getElem? hy))
        refine de_and ?_
        refine de_isT rfl (b_isinstance T) (by decide +kernel) rfl (b_int T) (by decide +kernel) kit_int ?_
        refine de_var 0 rfl (.inl rfl) rfl ?_
        refine ⟨hyo, _, rfl, fun h1 => ?_, fun h1 => ?_⟩
        · rw [h1, Bool.true_and]
          refine de_and ?_
          refine de_not ?_
          refine de_isT rfl (b_isinstance T) (by decide +kernel) rfl (b_bool T) (by decide +kernel) kit_bool ?_
          refine de_var 0 rfl (.inl rfl) rfl ?_
          refine ⟨hyo, _, rfl, _, rfl, fun h2 => ?_, fun h2 => ?_⟩
          · rw [h2, Bool.true_and]
            obtain ⟨i, rfl⟩ := int_of h1 (by simpa using h2)
            refine de_one ?_
            refine de_le3 ?_
            refine de_int ?_
            refine de_var 0 rfl (.inl rfl) rfl ?_
            refine ⟨_, _, rfl, rfl, fun hb => ?_, fun hb => ?_⟩
            · refine de_int ?_
              refine ⟨_, rfl, ?_⟩
              show D.bl (decide (i ≤ 1)) = .bl (decide (0 ≤ i) && decide (i ≤ 1))
              rw [decide_eq_true hb, Bool.true_and]
            · show D.bl false = .bl (decide (0 ≤ i) && decide (i ≤ 1))
              rw [decide_eq_false hb, Bool.false_and]
          · rw [h2, Bool.false_and]
        · rw [h1, Bool.false_and]
      · rw [List.all_map]
        exact hΦ
def sp_rows_together : DSp := fun ds Φ _ => ∃ L : List (List Int), ds = [sq L] ∧ L.flatten.length ≤ 10000 ∧ Φ (wd L.flatten)
theorem sc_rows_together : FnScope ["square", "row", "bit"] ["square"] (defScope s_rows_together) := ⟨rfl, rfl, rfl, by decide +kernel, rfl, by decide +kernel, by decide +kernel⟩
theorem flat_step {L : List (List Int)} {j : Nat} {r : List Int} (h : L[j]? = some r) : (L.take (j + 1)).flatten = (L.take j).flatten ++ r := by
  rw [take_next h, List.flatten_append]
  simp
theorem flat_len {L : List (List Int)} {j : Nat} {r : List Int} (h : L[j]? = some r) : (L.take j).flatten.length + r.length ≤ L.flatten.length := by
  rw [← List.length_append, ← flat_step h]
  conv => rhs; rw [← List.take_append_drop (j + 1) L]
  rw [List.flatten_append, List.length_append]
  omega
theorem map_get {α β : Type} {l : List α} {f : α → β} {j : Nat} {y : β} (h : (l.map f)[j]? = some y) : ∃ x, l[j]? = some x ∧ y = f x := by
  rw [List.getElem?_map] at h
  cases q : l[j]? with
  | none => rw [q] at h; cases h
  | some x =>
    rw [q] at h
    cases h
    exact ⟨x, rfl, rfl⟩
theorem ok_rows_together (T : Tx K mg base) : Cal P w K mg base 1 "rows_together" sp_rows_together := by
  refine cal_of T 20 rfl rfl sc_rows_together (fun _ _ _ _ _ _ us hl => match us, hl with | [_], _ => rfl) (fun ds Φ Ψ ⟨_, h, _⟩ => by rw [h] <;> rfl) fun cdv A outer s H E hcd hr ds Φ Ψ h => ?_
  obtain ⟨L, rfl, hL, hΦ⟩ := h
  have sc := sc_rows_together
  refine dss_one (ds_ret ?_)
  refine de_callTy call_tuple_of rfl (b_tuple T) (by decide +kernel) ?_
  refine da_cons ?_
  refine de_lc2 1 2 rfl sc.nd rfl rfl (by decide) (show BlkOk ["square", "row", "bit"] (defScope s_rows_together) _ [("row", 1), ("bit", 2)] from ⟨rfl, by decide +kernel, by decide +kernel, by decide +kernel, by decide +kernel⟩) (.inl rfl) (.inl rfl) (.inr rfl) (.inr rfl) ?_
  refine df_tup (de_var 0 rfl (.inl rfl) rfl ?_)
  refine ⟨_, rfl, fun j ds => ds = ((L.take j).flatten).map .int, rfl, fun j y ds hy hd s0 H0 C cl fp => ?_, fun ds hd => ?_⟩
  · obtain ⟨r, hr1, rfl⟩ := map_get hy
    refine df_tup (de_var 1 rfl (.inl rfl) rfl ?_)
    refine ⟨_, rfl, fun j1 ds => ds = ((L.take j).flatten ++ r.take j1).map .int, by show ds = ((L.take j).flatten ++ r.take 0).map .int; rw [List.take_zero, List.append_nil]; exact hd, fun j1 y1 ds1 hy1 hd1 s0 H0 C cl fp => ?_, fun ds1 hd1 => ?_⟩
    · obtain ⟨i, hi, rfl⟩ := map_get hy1
      refine de_var 2 rfl (.inl rfl) rfl ?_
      refine ⟨?_, ?_⟩
      · rw [hd1, List.length_map, List.length_append, List.length_take]
        have q := flat_len hr1
        have z : (10000 : Nat) < sizeLine := by decide
        omega
      · show ds1 ++ [D.int i] = ((L.take j).flatten ++ r.take (j1 + 1)).map .int
        have hd1 : ds1 = ((L.take j).flatten ++ r.take j1).map .int := hd1
        rw [hd1, take_next hi, ← List.append_assoc, List.map_append (l₁ := (L.take j).flatten ++ r.take j1)]
        rfl
    · show ds1 = ((L.take (j + 1)).flatten).map .int
      have hd1 : ds1 = ((L.take j).flatten ++ r.take (r.map D.int).length).map .int := hd1
      rw [hd1, List.length_map, List.take_length, flat_step hr1]
  · refine da_nil ?_
    refine cd_tuple ?_
    have hd : ds = ((L.take (L.map wd).length).flatten).map .int := hd
    rw [hd, List.length_map, List.take_length]
    exact hΦ
end
end Fr
end
-- FrTape
section
set_option Elab.async false
set_option linter.all false
set_option maxRecDepth 100000
/-! The tape. -/
namespace Fr
open PySem PySem.Spec PyProof.Rows L2
-- macros
local macro_rules | `(tactic| walk_at "side") => `(tactic| first | assumption | omega | rfl | decide)
local macro_rules | `(tactic| walk_at "cm") => `(tactic| first | exact .inl ⟨by omega, by omega⟩ | exact .inr ⟨by omega, by omega⟩)
local macro_rules | `(tactic| walk_at "len") => `(tactic| first | decide | (show _ ≤ sizeLine; simp only [List.length_cons, List.length_nil]; decide))
local macro_rules | `(tactic| walk_at "add") => `(tactic| first | refine od_addI ?_ | refine od_addT (by walk_at "side") ?_ | refine od_addL (by walk_at "side") ?_)
local macro_rules | `(tactic| walk_at "mul") => `(tactic| first | refine od_mulI (by walk_at "cm") ?_ | refine od_mulT (by walk_at "side") (by walk_at "side") (by walk_at "side") ?_)
local macro_rules | `(tactic| walk_at "ok") => `(tactic| first | assumption | (simp only [D.ok, okL, Bool.and_true, Bool.true_and]; first | done | assumption | decide))
local macro_rules | `(tactic| walk_at "eq") => `(tactic| first | refine od_eqII ?_ | refine od_eq 20 20 (by walk_at "ok") (by walk_at "ok") (by omega) ?_)
local macro_rules | `(tactic| walk_at "ne") => `(tactic| first | refine od_neII ?_ | refine od_ne 20 20 (by walk_at "ok") (by walk_at "ok") (by omega) ?_)
local macro_rules | `(tactic| walk_at "slice") => `(tactic| first | refine .inl ⟨_, rfl, ?_⟩ | refine .inr ⟨_, rfl, ?_⟩)
-- end macros
/-! ### the tape's own dict -/
theorem Kp.tape {K : PySem.W.Frag} {H : Hp} {a l : Addr} {kvs : List (Key × V)} (h : TapeAt H a l) (hn : ∃ (at_ g lf sd tn : Int), kvs = tapeV l at_ g lf sd tn ∧ 0 ≤ at_) : Kp K H (upd H a (.dK kvs)) := by
  obtain ⟨cs, at0, g0, lf0, sd0, tn0, h1, h2, h3⟩ := h
  obtain ⟨at_, g, lf, sd, tn, rfl, h4⟩ := hn
  have nD : ∀ b u, H b = some u → (∀ q, u ≠ .dK q) → b ≠ a := fun b u e q z => by
    rw [z, h1] at e
    exact q _ (Option.some.inj e).symm
  refine ⟨fun p o e s => ?_, fun a' l' ⟨cs', at', g', lf', sd', tn', e1, e2, e3⟩ => ?_, fun ⟨t1, ps, e1, e2, e3⟩ => ⟨fun P hP => ?_, ps, ?_, e2, fun pos cv hc => ?_⟩, fun p e => ?_⟩
  · by_cases z : p = a
    · rw [z, h1] at e
      cases e
      exact absurd rfl s
    · rw [upd_ne z]
      exact e
  · by_cases z : a' = a
    · rw [z, h1] at e1
      have q : tapeV l at0 g0 lf0 sd0 tn0 = tapeV l' at' g' lf' sd' tn' := HO.dK.inj (Option.some.inj e1)
      have hl : l = l' := by
        have q2 := (List.cons.inj q).1
        have q3 := (Prod.mk.inj q2).2
        exact V.ref.inj q3
      subst hl
      refine ⟨cs', at_, g, lf, sd, tn, by rw [z]; exact upd_same, ?_, h4⟩
      rw [upd_ne (nD l _ e2 fun q z => by cases z)]
      exact e2
    · refine ⟨cs', at', g', lf', sd', tn', by rw [upd_ne z]; exact e1, ?_, e3⟩
      rw [upd_ne (nD l' _ e2 fun q z => by cases z)]
      exact e2
  · obtain ⟨qs, e, r⟩ := t1 P hP
    exact ⟨qs, by rw [upd_ne (nD P _ e fun q z => by cases z)]; exact e, r⟩
  · rw [upd_ne (nD _ _ e1 fun q z => by cases z)]
    exact e1
  · obtain ⟨c, z1, z2⟩ := e3 pos cv hc
    exact ⟨c, z1, by rw [upd_ne (nD _ _ z2 fun q z => by unfold LamX.CodeO at z; cases z)]; exact z2⟩
  · by_cases z : p = a
    · rw [z, upd_same] at e
      cases e
    · rw [upd_ne z] at e
      exact e
/-- the fields that hold ints -/
inductive Fld : Str → Prop
  | at_ : Fld "at"
  | great : Fld "great"
  | left : Fld "left"
  | seed : Fld "seed"
  | turn : Fld "turn"
theorem fld_get {H : Hp} {a l : Addr} {f : Str} (hf : Fld f) (h : TapeAt H a l) : ∃ i : Int, DGet H a (.str f) (some (.int i)) ∧ (f = "at" → 0 ≤ i) := by
  obtain ⟨cs, at0, g0, lf0, sd0, tn0, h1, h2, h3⟩ := h
  cases hf with
  | at_ => exact ⟨at0, DGet.k (k := Sum.inr "at") h1, fun _ => h3⟩
  | great => exact ⟨g0, DGet.k (k := Sum.inr "great") h1, fun z => absurd z (by decide)⟩
  | left => exact ⟨lf0, DGet.k (k := Sum.inr "left") h1, fun z => absurd z (by decide)⟩
  | seed => exact ⟨sd0, DGet.k (k := Sum.inr "seed") h1, fun z => absurd z (by decide)⟩
  | turn => exact ⟨tn0, DGet.k (k := Sum.inr "turn") h1, fun z => absurd z (by decide)⟩
theorem fld_put {K : PySem.W.Frag} {H : Hp} {a l : Addr} {f : Str} {i : Int} (hf : Fld f) (h : TapeAt H a l) (hi : f = "at" → 0 ≤ i) : ∃ H', DPut H a (.str f) (.int i) H' ∧ Kp K H H' := by
  have h' := h
  obtain ⟨cs, at0, g0, lf0, sd0, tn0, h1, h2, h3⟩ := h
  have hz : (tapeV l at0 g0 lf0 sd0 tn0).length < sizeLine := show 6 < sizeLine by decide
  cases hf with
  | at_ => exact ⟨_, DPut.k (k := Sum.inr "at") h1 hz, Kp.tape h' ⟨i, g0, lf0, sd0, tn0, rfl, hi rfl⟩⟩
  | great => exact ⟨_, DPut.k (k := Sum.inr "great") h1 hz, Kp.tape h' ⟨at0, i, lf0, sd0, tn0, rfl, h3⟩⟩
  | left => exact ⟨_, DPut.k (k := Sum.inr "left") h1 hz, Kp.tape h' ⟨at0, g0, i, sd0, tn0, rfl, h3⟩⟩
  | seed => exact ⟨_, DPut.k (k := Sum.inr "seed") h1 hz, Kp.tape h' ⟨at0, g0, lf0, i, tn0, rfl, h3⟩⟩
  | turn => exact ⟨_, DPut.k (k := Sum.inr "turn") h1 hz, Kp.tape h' ⟨at0, g0, lf0, sd0, i, rfl, h3⟩⟩
section
variable {X : Cx} {δ : List Sl} {Φ : D → Prop} {Δ : DEnds} {o e : Expr} {pos p p2 : Pos} {f : Str} {j : Nat}
/-- tape["at"] .. -/
theorem de_tget (hu : X.A.units + 1 < cLine) (hf : Fld f) (h : DE X o δ fun d => d = .tape ∧ ∀ i : Int, (f = "at" → 0 ≤ i) → Φ (.int i)) (hs : NoSl (.Constant (.str f) j p) := by exact fun _ _ => rfl) : DE X (.Subscript o (.Constant (.str f) j p) pos) δ Φ :=
  .of (pe_dget hu pe_E pe_str hs) fun σ H Q en k => h σ H _ en fun d v H1 ⟨ed, q⟩ k1 d1 => by
    subst ed
    cases d1 with
    | @tape a l ht =>
      obtain ⟨i, g, hi⟩ := fld_get hf ht
      exact ⟨a, .int i, rfl, g, k _ _ H1 (q i hi) k1 (.int i)⟩
/-- tape["at"] = e -/
theorem ds_tput (hu : X.A.units + 1 < cLine) (hf : Fld f) (h : DE X e δ fun d => ∃ i, d = .int i ∧ (f = "at" → 0 ≤ i) ∧ DE X o δ fun d => d = .tape ∧ Δ.nx δ) (hs : swapsWith e (some (.Subscript o (.Constant (.str f) j p) p2)) pos.line X.env = pure false := by rfl) :
    DS X (.Assign [.Subscript o (.Constant (.str f) j p) p2] e pos) δ Δ :=
  .of (ps_dput hu pe_E pe_str pe_E hs) fun H0 σ H D W tk s k => h σ H _ s.en fun d v H1 ⟨i, ed, hi, q⟩ k1 d1 => by
    subst ed
    cases d1
    refine q σ H1 _ (s.en.keep k1) fun d2 v2 H2 ⟨ed2, q2⟩ k2 d2' => ?_
    subst ed2
    cases d2' with
    | @tape a l ht =>
      obtain ⟨H3, g, k3⟩ := fld_put (K := X.K) hf ht hi
      exact ⟨a, H3, rfl, g, k.nx _ _ _ q2 (s.keep ((k1.trans k2).trans k3))⟩
/-- if .. and tape["at"] < len(tape["cells"]): x = tape["cells"][tape["at"]]; .. -/
theorem ds_tif (i0 ix : Nat) {a : Expr} {t x : Str} {pb n1 n2 n3 n4 k1 k2 k3 k4 q1 q2 q3 q4 pl pc pt px ps pa : Pos} {j1 j2 j3 j4 : Nat} {rest : List Stmt} (hu : X.A.units + 1 < cLine) (hN : X.N.Nodup) (hi : X.N[i0]? = some t) (hv : Vis X.env.scope t) (hx : X.N[ix]? = some x) (hl : Loc X.env.scope x)
    (hg : Gl X "len") (hm : X.mg "len" = none) (h0 : δ[i0]?.bind Sl.val = some .tape) (ha : DT X a δ fun _ => True) (hr : ∀ c : Int, DSs X rest (δ.set ix (.v (.int c))) Δ) (hn : Δ.nx δ) (hd1 : (t == ("__debug__" : Str)) = false := by decide) (hd2 : (t == ("__classdict__" : Str)) = false := by decide)
    (hs : swapsWith (.Subscript (.Subscript (.Name t n3) (.Constant (.str "cells") j3 k3) q3) (.Subscript (.Name t n4) (.Constant (.str "at") j4 k4) q4) ps) (some (.Name x px)) pa.line X.env = pure false := by rfl)
    (he : starEach [.Subscript (.Name t n2) (.Constant (.str "cells") j2 k2) q2] X.env = (false, eval (.Subscript (.Name t n2) (.Constant (.str "cells") j2 k2) q2) X.env) :: starEach [] X.env := by rfl)
    (hf : X.fn x = true ∨ X.env.scope.names.lookup x = some .local := by first | exact .inl rfl | exact .inr rfl) (hm1 : behindInMarks .Lt (.Call (.Name "len" pl) [.Subscript (.Name t n2) (.Constant (.str "cells") j2 k2) q2] [] pc) = false := by rfl)
    (hp1 : PlainIx (.Subscript (.Name t n4) (.Constant (.str "at") j4 k4) q4) := by exact fun _ _ => rfl) :
    DS X (.If (.BoolOp .And [a, .Compare (.Subscript (.Name t n1) (.Constant (.str "at") j1 k1) q1) [.Lt] [.Call (.Name "len" pl) [.Subscript (.Name t n2) (.Constant (.str "cells") j2 k2) q2] [] pc] pt] pb)
      (.Assign [.Name x px] (.Subscript (.Subscript (.Name t n3) (.Constant (.str "cells") j3 k3) q3) (.Subscript (.Name t n4) (.Constant (.str "at") j4 k4) q4) ps) pa :: rest) [] pos) δ Δ := by
  have dg : ∀ (n k q : Pos) (j : Nat) (f : Str), PE X (.Subscript (.Name t n) (.Constant (.str f) j k) q) (tDGet (tVar i0) (tC (.str f))) := fun n k q j f => pe_dget hu (pe_var hi hv hd1 hd2) pe_str fun _ _ => rfl
  refine .of (ps_if (pw_and pt_T (pw_and1 (pt_cmpR op_lt (dg n1 k1 q1 j1 "at") (pe_callB call_len_seq hg hm (by decide +kernel) (pa_cons (dg n2 k2 q2 j2 "cells") pa_nil he) (by decide) (by decide) he (by rfl)) hm1))).pt
    (pss_cons (ps_set hN hx hl (pe_ix ix_seq (dg n3 k3 q3 j3 "cells") (dg n4 k4 q4 j4 "at") hp1) hs hf) pss_S) pss_nil) fun H0 σ H Dn W tk s k => ?_
  refine ha σ H _ s.en fun c H1 _ k1 => ?_
  have s1 := s.keep k1
  cases c with
  | false => exact iteF (iteF (k.nx _ _ _ hn s1))
  | true =>
    obtain ⟨v, e0, hd⟩ := s1.en.at_ h0
    cases hd with
    | @tape ad l ht =>
      obtain ⟨cs, at0, g0, lf0, sd0, tn0, h1, h2, h3⟩ := id ht
      have gat : DGet H1 ad (.str "at") (some (.int at0)) := DGet.k (k := Sum.inr "at") h1
      have gce : DGet H1 ad (.str "cells") (some (.ref l)) := DGet.k (k := Sum.inr "cells") h1
      refine iteT ⟨_, e0, ad, _, rfl, gat, ⟨_, e0, ad, _, rfl, gce, l, _, rfl, .inl (.of h2), at0, _, rfl, rfl, _, rfl, ?_⟩⟩
      by_cases hlt : at0 < ((cs.map V.int).length : Int)
      · rw [decide_eq_true hlt]
        rw [List.length_map] at hlt
        refine iteT ⟨_, e0, ad, _, rfl, gce, _, e0, ad, _, rfl, gat, ?_⟩
        have hz : at0.toNat < cs.length := by omega
        have hat : atI (cs.map D.int) at0 = some (.int cs[at0.toNat]) := by
          unfold atI ixN
          rw [List.length_map, if_pos h3, if_pos hlt]
          show (cs.map D.int)[at0.toNat]? = _
          rw [List.getElem?_map, List.getElem?_eq_getElem hz]
          rfl
        refine od_ix (Φ := fun d => d = .int cs[at0.toNat]) (.inr rfl) hat rfl H1 (.ref l) (.int at0) _ (.lst h2 (datL_ints cs)) (.int at0) fun d u H2 ed k2 d2 => ?_
        subst ed
        cases d2
        exact hr _ H0 _ H2 Dn W tk ((s1.keep k2).set ix (.int _)) k
      · rw [decide_eq_false hlt]
        exact iteF (k.nx _ _ _ hn s1)
end
end Fr
end
-- FrL1
section
set_option Elab.async false
set_option linter.all false
set_option maxRecDepth 100000
/-! The walks: the law's draws. -/
namespace Fr
open PySem PySem.Spec PyProof.Rows L2
-- macros
local macro_rules | `(tactic| walk_at "side") => `(tactic| first | assumption | omega | rfl | decide)
local macro_rules | `(tactic| walk_at "cm") => `(tactic| first | exact .inl ⟨by omega, by omega⟩ | exact .inr ⟨by omega, by omega⟩)
local macro_rules | `(tactic| walk_at "len") => `(tactic| first | decide | (show _ ≤ sizeLine; simp only [List.length_cons, List.length_nil]; decide))
local macro_rules | `(tactic| walk_at "add") => `(tactic| first | refine od_addI ?_ | refine od_addT (by walk_at "side") ?_ | refine od_addL (by walk_at "side") ?_)
local macro_rules | `(tactic| walk_at "mul") => `(tactic| first | refine od_mulI (by walk_at "cm") ?_ | refine od_mulT (by walk_at "side") (by walk_at "side") (by walk_at "side") ?_)
local macro_rules | `(tactic| walk_at "ok") => `(tactic| first | assumption | (simp only [D.ok, okL, Bool.and_true, Bool.true_and]; first | done | assumption | decide))
local macro_rules | `(tactic| walk_at "eq") => `(tactic| first | refine od_eqII ?_ | refine od_eq 20 20 (by walk_at "ok") (by walk_at "ok") (by omega) ?_)
local macro_rules | `(tactic| walk_at "ne") => `(tactic| first | refine od_neII ?_ | refine od_ne 20 20 (by walk_at "ok") (by walk_at "ok") (by omega) ?_)
local macro_rules | `(tactic| walk_at "slice") => `(tactic| first | refine .inl ⟨_, rfl, ?_⟩ | refine .inr ⟨_, rfl, ?_⟩)
local macro_rules | `(tactic| walk_at "vis") => `(tactic| first | exact .inl rfl | exact .inr (.inl rfl) | exact .inr (.inr rfl))
local macro_rules | `(tactic| walk_at "loc") => `(tactic| first | exact .inl rfl | exact .inr rfl)
local macro_rules | `(tactic| walk_at "locf") => `(tactic| first | exact .inr rfl | exact .inl rfl)
-- end macros
section
variable {X : Cx} {δ : List Sl} {Δ : DEnds} {st : Stmt} {sts : List Stmt} {Φ : D → Prop}
theorem dss_then (Ψ : List Sl → Prop) (h : DS X st δ { Δ with nx := Ψ }) (k : ∀ δ', Ψ δ' → DSs X sts δ' Δ) : DSs X (st :: sts) δ Δ := dss_cons (h.imp (fun δ p => k δ p) (fun _ p => p) (fun _ p => p) (fun _ p => p) fun _ _ p => p)
theorem DW.imp {e : Expr} {Φb Ψ : Bool → Prop} (h : DW X e δ Φb) (hh : ∀ b, Φb b → Ψ b) : DW X e δ Ψ := fun σ H Q en k => h σ H Q en fun d H' p => k d H' (hh d p)
theorem od_powI {i j : Int} (hc : CPow i j) (h : Φ (.int (i ^ j.toNat))) : OD X (rI CPow fun i j => .int (i ^ j.toNat)) (.int i) (.int j) Φ := od_I (g := fun i j => i ^ j.toNat) hc h
end
theorem u1_of {k : Nat} {A : Around} (r : Room k A) : A.units + 1 < cLine := by have := r.un; omega
/-! ### slices -/
section
variable {α : Type} {xs : List α}
theorem sIx_p {n d : Nat} {v : Int} (h : 0 ≤ v) : HT.sIx n d (some v) = min v.toNat n := by
  show (if v < 0 then (v + (n : Int)).toNat else min v.toNat n) = _
  rw [if_neg (by omega)]
theorem sIx_m {n d : Nat} : HT.sIx n d (some (-1)) = n - 1 := by
  show (if (-1 : Int) < 0 then ((-1 : Int) + (n : Int)).toNat else min (-1 : Int).toNat n) = _
  rw [if_pos (by omega)]
  omega
theorem sIx_o {n d : Nat} : HT.sIx n d none = d := rfl
theorem cutL_to {n : Int} (h : 0 ≤ n) : cutL xs none (some n) = xs.take n.toNat := by
  unfold cutL
  rw [sIx_p h, sIx_o, List.drop_zero, Nat.sub_zero, List.take_eq_take_iff]
  omega
theorem cutL_from {n : Int} (h : 0 ≤ n) : cutL xs (some n) none = xs.drop n.toNat := by
  unfold cutL
  rw [sIx_p h, sIx_o]
  by_cases hn : n.toNat ≤ xs.length
  · rw [Nat.min_eq_left hn, List.take_of_length_le (by rw [List.length_drop]; omega)]
  · rw [Nat.min_eq_right (by omega), List.drop_length, List.drop_of_length_le (by omega), List.take_nil]
theorem cutL_init : cutL xs none (some (-1)) = xs.dropLast := by
  unfold cutL
  rw [sIx_m, sIx_o, List.drop_zero, Nat.sub_zero, List.dropLast_eq_take]
theorem cutL_mid {a b : Int} (ha : 0 ≤ a) (hb : a ≤ b) (h : b.toNat ≤ xs.length) : cutL xs (some a) (some b) = (xs.drop a.toNat).take (b.toNat - a.toNat) := by
  unfold cutL
  rw [sIx_p ha, sIx_p (by omega), Nat.min_eq_left h, Nat.min_eq_left (by omega)]
end
section
variable {P : Program} {w : World} {K : PySem.W.Frag} {mg : Str → Option Value} {base : Heap}
def sp__law_mixed : DSp := fun ds Φ _ => ∃ a b : Int, ds = [.int a, .int b] ∧ ∀ i : Int, Φ (.int i)
theorem sc__law_mixed : FnScope ["_law_number_here", "_law_turn", "_law_first", "_law_second"] ["_law_number_here", "_law_turn"] (defScope s_Lmixed) := ⟨rfl, rfl, rfl, by decide +kernel, rfl, by decide +kernel, by decide +kernel⟩
theorem ok__law_mixed (T : Tx K mg base) : Cal P w K mg base 1 "_law_mixed" sp__law_mixed := by
  refine cal_of T 24 rfl rfl sc__law_mixed (fun _ _ _ _ _ _ us hl => match us, hl with | [_, _], _ => rfl) (fun ds Φ Ψ ⟨_, _, h, _⟩ => by rw [h] <;> rfl) fun cdv A outer s H E hcd hr ds Φ Ψ h => ?_
  have sc := sc__law_mixed
  obtain ⟨a, b, rfl, hΦ⟩ := h
  refine dss_cons (ds_set 2 sc.nd rfl (.inl rfl) ?_)
  refine de_op op_mod ?_
  refine de_callTy call_int1 rfl (b_int T) (by decide +kernel) ?_
  refine da_cons ?_
  refine de_op op_addU ?_
  refine de_op op_addU ?_
  refine de_op op_mulU ?_
  refine de_var 0 rfl (.inl rfl) rfl ?_
  refine de_int ?_
  walk_at "mul"
  refine de_op op_mulU ?_
  refine de_var 1 rfl (.inl rfl) rfl ?_
  refine de_int ?_
  walk_at "mul"
  walk_at "add"
  refine de_int ?_
  walk_at "add"
  refine da_nil ?_
  refine cd_int ?_
  refine de_int ?_
  refine od_modI (by walk_at "side") ?_
  generalize (a * 48271 + b * 69621 + 11) % 2147483647 = x
  refine dss_cons (ds_set 3 sc.nd rfl (.inl rfl) ?_)
  refine de_op op_mod ?_
  refine de_callTy call_int1 rfl (b_int T) (by decide +kernel) ?_
  refine da_cons ?_
  refine de_op op_addU ?_
  refine de_op op_addU ?_
  refine de_op op_mulU ?_
  refine de_var 2 rfl (.inl rfl) rfl ?_
  refine de_int ?_
  walk_at "mul"
  refine de_op op_fdiv ?_
  refine de_var 2 rfl (.inl rfl) rfl ?_
  refine de_int ?_
  refine od_divI ⟨by omega, by omega⟩ ?_
  walk_at "add"
  refine de_op op_mulU ?_
  refine de_var 1 rfl (.inl rfl) rfl ?_
  refine de_int ?_
  walk_at "mul"
  walk_at "add"
  refine da_nil ?_
  refine cd_int ?_
  refine de_int ?_
  refine od_modI (by walk_at "side") ?_
  have hy1 := Int.emod_nonneg (x * 16807 + x / 127773 + b * 271) (show (1000003 : Int) ≠ 0 by omega)
  have hy2 := Int.emod_lt_of_pos (x * 16807 + x / 127773 + b * 271) (show (0 : Int) < 1000003 by omega)
  generalize (x * 16807 + x / 127773 + b * 271) % 1000003 = y at hy1 hy2
  refine dss_one (ds_ret ?_)
  refine de_op op_mod ?_
  refine de_callTy call_int1 rfl (b_int T) (by decide +kernel) ?_
  refine da_cons ?_
  refine de_op op_addU ?_
  refine de_op op_mulU ?_
  refine de_var 3 rfl (.inl rfl) rfl ?_
  refine de_var 3 rfl (.inl rfl) rfl ?_
  walk_at "mul"
  refine de_op op_fdiv ?_
  refine de_var 2 rfl (.inl rfl) rfl ?_
  refine de_int ?_
  refine od_divI ⟨by omega, by omega⟩ ?_
  walk_at "add"
  refine da_nil ?_
  refine cd_int ?_
  refine de_int ?_
  refine od_modI (by walk_at "side") ?_
  exact hΦ _
def sp__law_tape : DSp := fun ds Φ _ => ∃ cs : List Int, ds = [.scr cs] ∧ Φ .tape
theorem sc__law_tape : FnScope ["_law_script"] ["_law_script"] (defScope s_Ltape) := ⟨rfl, rfl, rfl, by decide +kernel, rfl, by decide +kernel, by decide +kernel⟩
theorem plL_ints : ∀ l : List Int, plL (l.map D.int) = true
  | [] => by rw [List.map_nil, plL]
  | i :: l => by rw [List.map_cons, plL, D.pl, plL_ints l]; rfl
theorem ok__law_tape (T : Tx K mg base) : Cal P w K mg base 1 "_law_tape" sp__law_tape := by
  refine cal_of T 25 rfl rfl sc__law_tape (fun _ _ _ _ _ _ us hl => match us, hl with | [_], _ => rfl) (fun ds Φ Ψ ⟨_, h, _⟩ => by rw [h] <;> rfl) fun cdv A outer s H E hcd hr ds Φ Ψ h => ?_
  obtain ⟨cs, rfl, hΦ⟩ := h
  refine dss_one (ds_ret ?_)
  refine de_tapeD (pps_cons pe_str pe_E (pps_cons pe_str pe_E (pps_cons pe_str pe_E (pps_cons pe_str pe_E (pps_cons pe_str pe_E (pps_cons pe_str pe_E pps_nil)))))) rfl rfl (by simp) (by decide) rfl ?_
  refine de_callTy call_list_of rfl (b_list T) (by decide +kernel) ?_
  refine da_cons ?_
  refine de_var 0 rfl (.inl rfl) rfl ?_
  refine da_nil ?_
  refine cd_list rfl ?_
  refine ⟨by rw [D.pl]; exact plL_ints cs, ?_⟩
  refine de_int ⟨by rw [D.pl], ?_⟩
  refine de_int ⟨by rw [D.pl], ?_⟩
  refine de_int ⟨by rw [D.pl], ?_⟩
  refine de_int ⟨by rw [D.pl], ?_⟩
  refine de_int ⟨by rw [D.pl], ?_⟩
  exact ⟨⟨cs, 0, 0, 0, 7, 0, by omega, rfl⟩, hΦ⟩
def sp__law_draw : DSp := fun ds Φ _ => ∃ m : Int, ds = [.tape, .int m] ∧ 0 < m ∧ ∀ i : Int, 0 ≤ i → i < m → Φ (.int i)
theorem sc__law_draw : FnScope ["_law_tape_here", "_law_many", "_law_cell", "_law_digit"] ["_law_tape_here", "_law_many"] (defScope s_Ldraw) := ⟨rfl, rfl, rfl, by decide +kernel, rfl, by decide +kernel, by decide +kernel⟩
theorem ok__law_draw (T : Tx K mg base) : Cal P w K mg base 2 "_law_draw" sp__law_draw := by
  refine cal_of T 26 rfl rfl sc__law_draw (fun _ _ _ _ _ _ us hl => match us, hl with | [_, _], _ => rfl) (fun ds Φ Ψ ⟨_, h, _⟩ => by rw [h] <;> rfl) fun cdv A outer s H E hcd hr ds Φ Ψ h => ?_
  have sc := sc__law_draw
  obtain ⟨m, rfl, hm, hΦ⟩ := h
  have hu := u1_of hr
  -- turn
  refine dss_cons (ds_tput hu .turn ?_)
  refine de_op op_addU ?_
  refine de_tget hu .turn (de_var 0 rfl (.inl rfl) rfl ⟨rfl, fun i _ => ?_⟩)
  refine de_int ?_
  walk_at "add"
  refine ⟨_, rfl, fun z => absurd z (by decide), de_var 0 rfl (.inl rfl) rfl ⟨rfl, ?_⟩⟩
  -- the next cell
  refine dss_then (fun δ' => ∃ s2, δ' = [.b .tape, .b (.int m), s2, .no]) ?_ fun δ' ⟨s2, e⟩ => ?_
  · refine ds_tif 0 2 hu sc.nd rfl (.inl rfl) rfl (.inl rfl) rfl (b_len T) rfl ?_ (fun c => ?_) ⟨_, rfl⟩
    · refine dt_cmpO (op_eqD hr.units) rfl ?_
      refine de_tget hu .left (de_var 0 rfl (.inl rfl) rfl ⟨rfl, fun i _ => ?_⟩)
      refine de_int ?_
      walk_at "eq"
      exact isBl_of trivial
    · refine dss_cons (ds_tput hu .at_ ?_)
      refine de_op op_addU ?_
      refine de_tget hu .at_ (de_var 0 rfl (.inl rfl) rfl ⟨rfl, fun i hi => ?_⟩)
      refine de_int ?_
      walk_at "add"
      refine ⟨_, rfl, fun z => (by have := hi rfl; omega), de_var 0 rfl (.inl rfl) rfl ⟨rfl, ?_⟩⟩
      refine dss_cons (ds_tput hu .seed ?_)
      refine de_call (ok__law_mixed T) hr rfl ?_
      refine da_cons ?_
      refine de_op op_addU ?_
      refine de_tget hu .seed (de_var 0 rfl (.inl rfl) rfl ⟨rfl, fun i2 _ => ?_⟩)
      refine de_var 2 rfl (.inl rfl) rfl ?_
      walk_at "add"
      refine da_cons ?_
      refine de_tget hu .at_ (de_var 0 rfl (.inl rfl) rfl ⟨rfl, fun i3 _ => ?_⟩)
      refine da_nil ?_
      refine ⟨_, _, rfl, fun i4 => ?_⟩
      refine ⟨_, rfl, fun z => absurd z (by decide), de_var 0 rfl (.inl rfl) rfl ⟨rfl, ?_⟩⟩
      refine dss_cons (ds_tput hu .left ?_)
      refine de_int ?_
      refine ⟨_, rfl, fun z => absurd z (by decide), de_var 0 rfl (.inl rfl) rfl ⟨rfl, ?_⟩⟩
      refine dss_one (ds_if ?_)
      refine dt_cmpO op_ge rfl ?_
      refine de_var 2 rfl (.inl rfl) rfl ?_
      refine de_op op_pow ?_
      refine de_int ?_
      refine de_int ?_
      refine od_powI ⟨by decide, by decide, by decide⟩ ?_
      refine od_geI ?_
      refine isBl_of ⟨fun hb => ?_, fun hb => ?_⟩
      · refine dss_cons (ds_tput hu .great ?_)
        refine de_var 2 rfl (.inl rfl) rfl ?_
        refine ⟨_, rfl, fun z => absurd z (by decide), de_var 0 rfl (.inl rfl) rfl ⟨rfl, ?_⟩⟩
        refine dss_one (ds_tput hu .left ?_)
        refine de_int ?_
        exact ⟨_, rfl, fun z => absurd z (by decide), de_var 0 rfl (.inl rfl) rfl ⟨rfl, ⟨_, rfl⟩⟩⟩
      · exact dss_nil ⟨_, rfl⟩
  subst e
  -- left
  refine dss_then (fun δ' => δ' = [.b .tape, .b (.int m), s2, .no]) ?_ fun δ' e => ?_
  · refine ds_if ?_
    refine dt_cmpO op_gt rfl ?_
    refine de_tget hu .left (de_var 0 rfl (.inl rfl) rfl ⟨rfl, fun i _ => ?_⟩)
    refine de_int ?_
    refine od_gtI ?_
    refine isBl_of ⟨fun hb => ?_, fun hb => ?_⟩
    · refine dss_one (ds_tput hu .left ?_)
      refine de_op op_sub ?_
      refine de_tget hu .left (de_var 0 rfl (.inl rfl) rfl ⟨rfl, fun i _ => ?_⟩)
      refine de_int ?_
      refine od_subI ?_
      exact ⟨_, rfl, fun z => absurd z (by decide), de_var 0 rfl (.inl rfl) rfl ⟨rfl, rfl⟩⟩
    · exact dss_nil rfl
  subst e
  refine dss_then (fun δ' => δ' = [.b .tape, .b (.int m), s2, .no]) ?_ fun δ' e => ?_
  · refine ds_if ?_
    refine dt_cmpO (op_eqD hr.units) rfl ?_
    refine de_tget hu .great (de_var 0 rfl (.inl rfl) rfl ⟨rfl, fun i _ => ?_⟩)
    refine de_int ?_
    walk_at "eq"
    refine isBl_of ⟨fun hb => ?_, fun hb => ?_⟩
    · refine dss_one (ds_ret ?_)
      refine de_op op_mod ?_
      refine de_callTy call_int1 rfl (b_int T) (by decide +kernel) ?_
      refine da_cons ?_
      refine de_call (ok__law_mixed T) hr rfl ?_
      refine da_cons ?_
      refine de_tget hu .seed (de_var 0 rfl (.inl rfl) rfl ⟨rfl, fun i2 _ => ?_⟩)
      refine da_cons ?_
      refine de_tget hu .turn (de_var 0 rfl (.inl rfl) rfl ⟨rfl, fun i3 _ => ?_⟩)
      refine da_nil ?_
      refine ⟨_, _, rfl, fun i4 => ?_⟩
      refine da_nil ?_
      refine cd_int ?_
      refine de_var 1 rfl (.inl rfl) rfl ?_
      refine od_modI hm ?_
      exact hΦ _ (Int.emod_nonneg _ (by omega)) (Int.emod_lt_of_pos _ hm)
    · exact dss_nil rfl
  subst e
  refine dss_cons (ds_set 3 sc.nd rfl (.inl rfl) ?_)
  refine de_op op_mod ?_
  refine de_callTy call_int1 rfl (b_int T) (by decide +kernel) ?_
  refine da_cons ?_
  refine de_tget hu .great (de_var 0 rfl (.inl rfl) rfl ⟨rfl, fun i _ => ?_⟩)
  refine da_nil ?_
  refine cd_int ?_
  refine de_int ?_
  refine od_modI (by decide) ?_
  refine dss_cons (ds_tput hu .great ?_)
  refine de_op op_fdiv ?_
  refine de_tget hu .great (de_var 0 rfl (.inl rfl) rfl ⟨rfl, fun i5 _ => ?_⟩)
  refine de_int ?_
  refine od_divI ⟨by omega, by omega⟩ ?_
  refine ⟨_, rfl, fun z => absurd z (by decide), de_var 0 rfl (.inl rfl) rfl ⟨rfl, ?_⟩⟩
  refine dss_then (fun δ' => δ' = [.b .tape, .b (.int m), s2, .v (.int (i % 1009))]) ?_ fun δ' e => ?_
  · refine ds_if ?_
    refine dt_W ?_
    refine DW.imp (Φb := fun _ => True) ?_ fun b _ => ⟨fun hb => ?_, fun hb => ?_⟩
    · refine dw_or ?_
      refine dt_cmpO (op_eqD hr.units) rfl ?_
      refine de_tget hu .great (de_var 0 rfl (.inl rfl) rfl ⟨rfl, fun i _ => ?_⟩)
      refine de_int ?_
      walk_at "eq"
      refine isBl_of ⟨fun hb => trivial, fun hb => ?_⟩
      refine dw_one_or ?_
      refine dt_cmpO (op_eqD hr.units) rfl ?_
      refine de_tget hu .left (de_var 0 rfl (.inl rfl) rfl ⟨rfl, fun i _ => ?_⟩)
      refine de_int ?_
      walk_at "eq"
      exact isBl_of trivial
    · refine dss_cons (ds_tput hu .great ?_)
      refine de_int ?_
      refine ⟨_, rfl, fun z => absurd z (by decide), de_var 0 rfl (.inl rfl) rfl ⟨rfl, ?_⟩⟩
      refine dss_one (ds_tput hu .left ?_)
      refine de_int ?_
      exact ⟨_, rfl, fun z => absurd z (by decide), de_var 0 rfl (.inl rfl) rfl ⟨rfl, rfl⟩⟩
    · exact dss_nil rfl
  subst e
  refine dss_one (ds_ret ?_)
  refine de_op op_mod ?_
  refine de_callTy call_int1 rfl (b_int T) (by decide +kernel) ?_
  refine da_cons ?_
  refine de_var 3 rfl (.inl rfl) rfl ?_
  refine da_nil ?_
  refine cd_int ?_
  refine de_var 1 rfl (.inl rfl) rfl ?_
  refine od_modI hm ?_
  exact hΦ _ (Int.emod_nonneg _ (by omega)) (Int.emod_lt_of_pos _ hm)
end
end Fr
end
-- FrL2
section
set_option Elab.async false
set_option linter.all false
set_option maxRecDepth 100000
/-! The walks: the law's words and squares. -/
namespace Fr
open PySem PySem.Spec PyProof.Rows L2
-- macros
local macro_rules | `(tactic| walk_at "side") => `(tactic| first | assumption | omega | rfl | decide)
local macro_rules | `(tactic| walk_at "cm") => `(tactic| first | exact .inl ⟨by omega, by omega⟩ | exact .inr ⟨by omega, by omega⟩)
local macro_rules | `(tactic| walk_at "len") => `(tactic| first | decide | (show _ ≤ sizeLine; simp only [List.length_cons, List.length_nil]; decide))
local macro_rules | `(tactic| walk_at "add") => `(tactic| first | refine od_addI ?_ | refine od_addT (by walk_at "side") ?_ | refine od_addL (by walk_at "side") ?_)
local macro_rules | `(tactic| walk_at "mul") => `(tactic| first | refine od_mulI (by walk_at "cm") ?_ | refine od_mulT (by walk_at "side") (by walk_at "side") (by walk_at "side") ?_)
local macro_rules | `(tactic| walk_at "ok") => `(tactic| first | assumption | (simp only [D.ok, okL, Bool.and_true, Bool.true_and]; first | done | assumption | decide))
local macro_rules | `(tactic| walk_at "eq") => `(tactic| first | refine od_eqII ?_ | refine od_eq 20 20 (by walk_at "ok") (by walk_at "ok") (by omega) ?_)
local macro_rules | `(tactic| walk_at "ne") => `(tactic| first | refine od_neII ?_ | refine od_ne 20 20 (by walk_at "ok") (by walk_at "ok") (by omega) ?_)
local macro_rules | `(tactic| walk_at "slice") => `(tactic| first | refine .inl ⟨_, rfl, ?_⟩ | refine .inr ⟨_, rfl, ?_⟩)
local macro_rules | `(tactic| walk_at "vis") => `(tactic| first | exact .inl rfl | exact .inr (.inl rfl) | exact .inr (.inr rfl))
local macro_rules | `(tactic| walk_at "loc") => `(tactic| first | exact .inl rfl | exact .inr rfl)
local macro_rules | `(tactic| walk_at "locf") => `(tactic| first | exact .inr rfl | exact .inl rfl)
-- end macros
/-! ### what is said -/
theorem atI_nat {α : Type} {l : List α} {i : Int} {z : α} (h0 : 0 ≤ i) (h : l[i.toNat]? = some z) : atI l i = some z := by
  unfold atI ixN
  have hl := (List.getElem?_eq_some_iff.mp h).1
  rw [if_pos h0, if_pos (by omega)]
  exact h
def rowsOf {α : Type} (l : List α) (n : Nat) : List (List α) := (List.range n).map fun i => (l.drop (i * n)).take n
theorem rows_sq {l : List Int} {n : Nat} (h : bitsI l) (hl : l.length = n * n) : SqI n (rowsOf l n) := by
  refine ⟨by unfold rowsOf; rw [List.length_map, List.length_range], fun r hr => ?_⟩
  obtain ⟨i, hi, rfl⟩ := List.mem_map.mp hr
  have hi := List.mem_range.mp hi
  refine ⟨?_, fun x hx => h x (List.mem_of_mem_drop (List.mem_of_mem_take hx))⟩
  rw [List.length_take, List.length_drop, hl]
  have : (i + 1) * n ≤ n * n := Nat.mul_le_mul_right n hi
  rw [Nat.succ_mul] at this
  omega
theorem range_at {n j : Nat} {y : D} (h : ((List.range n).map fun j : Nat => D.int (j : Int))[j]? = some y) : j < n ∧ y = .int j := by
  have hj := (List.getElem?_eq_some_iff.mp h).1
  rw [List.length_map, List.length_range] at hj
  rw [List.getElem?_map, List.getElem?_range hj] at h
  cases h
  exact ⟨hj, rfl⟩
section
variable {P : Program} {w : World} {K : PySem.W.Frag} {mg : Str → Option Value} {base : Heap}
def sp__law_pick : DSp := fun ds Φ _ => ∃ l : List D, ds = [.tape, .lst l] ∧ l ≠ [] ∧ ∀ d ∈ l, Φ d
theorem sc__law_pick : FnScope ["_law_tape_here", "_law_row"] ["_law_tape_here", "_law_row"] (defScope s_Lpick) := ⟨rfl, rfl, rfl, by decide +kernel, rfl, by decide +kernel, by decide +kernel⟩
theorem ok__law_pick (T : Tx K mg base) : Cal P w K mg base 3 "_law_pick" sp__law_pick := by
  refine cal_of T 27 rfl rfl sc__law_pick (fun _ _ _ _ _ _ us hl => match us, hl with | [_, _], _ => rfl) (fun ds Φ Ψ ⟨_, h, _⟩ => by rw [h] <;> rfl) fun cdv A outer s H E hcd hr ds Φ Ψ h => ?_
  obtain ⟨l, rfl, hl, hΦ⟩ := h
  refine dss_one (ds_ret ?_)
  refine de_ix ?_
  refine de_var 1 rfl (.inl rfl) rfl ?_
  refine de_call (ok__law_draw T) hr rfl ?_
  refine da_cons ?_
  refine de_var 0 rfl (.inl rfl) rfl ?_
  refine da_cons ?_
  refine de_callB call_len_seq rfl (b_len T) (by decide +kernel) ?_
  refine da_cons ?_
  refine de_var 1 rfl (.inl rfl) rfl ?_
  refine da_nil ?_
  refine cd_len rfl ?_
  refine da_nil ?_
  have hz : 0 < l.length := List.length_pos_iff.mpr hl
  refine ⟨_, rfl, by omega, fun i h0 h1 => ?_⟩
  have hi : i.toNat < l.length := by omega
  exact ⟨l, i, l[i.toNat], .inr rfl, rfl, atI_nat h0 (List.getElem?_eq_getElem hi), hΦ _ (List.getElem_mem hi)⟩
def sp__law_word : DSp := fun ds Φ _ => ∃ n : Nat, ds = [.tape, .int n] ∧ n ≤ 1000 ∧ ∀ l, WdI n l → Φ (wd l)
theorem sc__law_word : FnScope ["_law_tape_here", "_law_n", "_law_bits", "_law_k", "_law_number_here", "_law_at"] ["_law_tape_here", "_law_n"] (defScope s_Lword) := ⟨rfl, rfl, rfl, by decide +kernel, rfl, by decide +kernel, by decide +kernel⟩
theorem ok__law_word (T : Tx K mg base) : Cal P w K mg base 3 "_law_word" sp__law_word := by
  refine cal_of T 28 rfl rfl sc__law_word (fun _ _ _ _ _ _ us hl => match us, hl with | [_, _], _ => rfl) (fun ds Φ Ψ ⟨_, h, _⟩ => by rw [h] <;> rfl) fun cdv A outer s H E hcd hr ds Φ Ψ h => ?_
  have sc := sc__law_word
  obtain ⟨n, rfl, hn, hΦ⟩ := h
  refine dss_cons (ds_set 2 sc.nd rfl (.inl rfl) ?_)
  refine de_lst ?_
  refine da_nil ?_
  refine ⟨by walk_at "len", ?_⟩
  refine dss_cons (ds_forR 3 rfl (passes_of rfl) sc.nd rfl (.inl rfl) rfl (b_range T) ?_)
  refine de_op op_fdiv ?_
  refine de_op op_addU ?_
  refine de_var 1 rfl (.inl rfl) rfl ?_
  refine de_int ?_
  walk_at "add"
  refine de_int ?_
  refine od_divI ⟨by omega, by omega⟩ ?_
  refine ⟨(n + 7) / 8, by norm_cast, by omega, fun j δ' => ∃ l s3 s4 s5, δ' = [.b .tape, .b (.int n), .v (.lst (l.map .int)), s3, s4, s5] ∧ l.length = 8 * j ∧ bitsI l, ⟨[], _, _, _, rfl, rfl, fun x hx => (by cases hx)⟩, fun j δ' hj ⟨l, s3, s4, s5, e, hl, hb⟩ => ?_, fun δ' ⟨l, s3, s4, s5, e, hl, hb⟩ => ?_⟩
  · subst e
    refine dss_cons (ds_set 4 sc.nd rfl (.inr rfl) ?_)
    refine de_call (ok__law_draw T) hr rfl ?_
    refine da_cons ?_
    refine de_var 0 rfl (.inl rfl) rfl ?_
    refine da_cons ?_
    refine de_int ?_
    refine da_nil ?_
    refine ⟨_, rfl, by omega, fun i _ _ => ?_⟩
    refine dss_one (ds_set 2 sc.nd rfl (.inl rfl) ?_)
    refine de_op op_addU ?_
    refine de_var 2 rfl (.inl rfl) rfl ?_
    refine de_lc 5 rfl sc.nd rfl (show BlkOk ["_law_tape_here", "_law_n", "_law_bits", "_law_k", "_law_number_here", "_law_at"] (defScope s_Lword) _ [("_law_at", 5)] from ⟨rfl, by decide +kernel, by decide +kernel, by decide +kernel, by decide +kernel⟩) (by walk_at "loc") (by walk_at "locf") ?_
    refine df_range rfl (b_range T) ?_
    refine de_int ?_
    refine ⟨8, rfl, by omega, by decide, fun j ds => ∃ m : List Int, ds = m.map .int ∧ m.length = j ∧ bitsI m, ⟨[], rfl, rfl, fun x hx => (by cases hx)⟩, fun j y ds hy ⟨m, e, hm, hmb⟩ s0 H0 C cl fp => ?_, fun ds ⟨m, e, hm, hmb⟩ => ?_⟩
    · obtain ⟨hj8, rfl⟩ := range_at hy
      refine de_op op_mod ?_
      refine de_callTy call_int1 rfl (b_int T) (by decide +kernel) ?_
      refine da_cons ?_
      refine de_op op_shr ?_
      refine de_var 4 rfl (by walk_at "vis") rfl ?_
      refine de_var 5 rfl (by walk_at "vis") rfl ?_
      refine od_shrI (by omega) ?_
      refine da_nil ?_
      refine cd_int ?_
      refine de_int ?_
      refine od_modI (by decide) ?_
      refine ⟨m ++ [i / 2 ^ (j : Int).toNat % 2], by rw [e, List.map_append]; rfl, by rw [List.length_append, hm]; rfl, fun x hx => ?_⟩
      rcases List.mem_append.mp hx with hx | hx
      · exact hmb x hx
      · rw [List.mem_singleton.mp hx]
        exact Int.emod_two_eq _
    · subst e
      have hm8 : m.length = 8 := hm
      have z : (20000 : Nat) < sizeLine := by decide
      refine od_addL (by rw [List.length_map, List.length_map]; omega) ?_
      refine ⟨l ++ m, _, _, _, by rw [List.map_append]; rfl, by rw [List.length_append, hl, hm8]; omega, fun x hx => ?_⟩
      rcases List.mem_append.mp hx with hx | hx
      · exact hb x hx
      · exact hmb x hx
  · subst e
    refine dss_one (ds_ret ?_)
    refine de_callTy call_tuple_of rfl (b_tuple T) (by decide +kernel) ?_
    refine da_cons ?_
    refine de_sl ?_
    refine de_var 2 rfl (.inl rfl) rfl ?_
    refine do_none ?_
    refine do_some ?_
    refine de_var 1 rfl (.inl rfl) rfl ?_
    refine ⟨_, rfl, ?_⟩
    refine .inr ⟨_, rfl, ?_⟩
    refine da_nil ?_
    refine cd_tuple ?_
    rw [cutL_to (by omega), Int.toNat_natCast, ← List.map_take]
    exact hΦ _ ⟨by rw [List.length_take, hl]; omega, fun x hx => hb x (List.mem_of_mem_take hx)⟩
def sp__law_times_word : DSp := fun ds Φ _ => ∃ l m : List Int, ds = [wd l, wd m] ∧ bitsI l ∧ bitsI m ∧ l.length = m.length ∧ l.length ≤ 1000 ∧ Φ (.int (par l m))
theorem sc__law_times_word : FnScope ["_law_one", "_law_other", "_law_k"] ["_law_one", "_law_other"] (defScope s_Ltimes_word) := ⟨rfl, rfl, rfl, by decide +kernel, rfl, by decide +kernel, by decide +kernel⟩
theorem ok__law_times_word (T : Tx K mg base) : Cal P w K mg base 1 "_law_times_word" sp__law_times_word := by
  refine cal_of T 29 rfl rfl sc__law_times_word (fun _ _ _ _ _ _ us hl => match us, hl with | [_, _], _ => rfl) (fun ds Φ Ψ ⟨_, _, h, _⟩ => by rw [h] <;> rfl) fun cdv A outer s H E hcd hr ds Φ Ψ h => ?_
  have sc := sc__law_times_word
  obtain ⟨l, m, rfl, hl, hm, hlm, hz, hΦ⟩ := h
  refine dss_one (ds_ret ?_)
  refine de_op op_mod ?_
  refine de_callTy call_int1 rfl (b_int T) (by decide +kernel) ?_
  refine da_cons ?_
  refine de_callB (cr_sum rfl) rfl (b_sum T) (by decide +kernel) ?_
  refine da_cons ?_
  refine de_lc 2 rfl sc.nd rfl (show BlkOk ["_law_one", "_law_other", "_law_k"] (defScope s_Ltimes_word) _ [("_law_k", 2)] from ⟨rfl, by decide +kernel, by decide +kernel, by decide +kernel, by decide +kernel⟩) (by walk_at "loc") (by walk_at "locf") ?_
  refine df_range rfl (b_range T) ?_
  refine de_callB call_len_seq rfl (b_len T) (by decide +kernel) ?_
  refine da_cons ?_
  refine de_var 0 rfl (by walk_at "vis") rfl ?_
  refine da_nil ?_
  refine cd_len rfl ?_
  rw [List.length_map]
  have zz : (2000 : Nat) < sizeLine := by decide
  refine ⟨l.length, rfl, by omega, by rw [List.length_map, List.length_range]; omega, fun j ds => ds = (((l.zip m).take j).map fun p => Builtin.bitAnd p.1 p.2).map .int, rfl, fun j y ds hy hd s0 H0 C cl fp => ?_, fun ds hd => ?_⟩
  · obtain ⟨hj, rfl⟩ := range_at hy
    have hp : (l.zip m)[j]? = some (l[j], m[j]'(by omega)) := by
      rw [List.getElem?_zip_eq_some]
      exact ⟨List.getElem?_eq_getElem hj, List.getElem?_eq_getElem _⟩
    have q := List.of_mem_zip (List.mem_of_getElem? hp)
    generalize l[j] = a at hp q
    generalize m[j]'(by omega) = b at hp q
    obtain ⟨p1, p2⟩ := List.getElem?_zip_eq_some.mp hp
    have b1 := hl _ q.1
    have b2 := hm _ q.2
    refine de_op op_mulU ?_
    refine de_ix ?_
    refine de_var 0 rfl (by walk_at "vis") rfl ?_
    refine de_var 2 rfl (by walk_at "vis") rfl ?_
    refine ⟨_, _, .int a, .inl rfl, rfl, atI_nat (by omega) (by rw [Int.toNat_natCast, List.getElem?_map, p1]; rfl), ?_⟩
    refine de_ix ?_
    refine de_var 1 rfl (by walk_at "vis") rfl ?_
    refine de_var 2 rfl (by walk_at "vis") rfl ?_
    refine ⟨_, _, .int b, .inl rfl, rfl, atI_nat (by omega) (by rw [Int.toNat_natCast, List.getElem?_map, p2]; rfl), ?_⟩
    refine od_mulI (.inl ⟨by omega, by omega⟩) ?_
    have hd : ds = (((l.zip m).take j).map fun p => Builtin.bitAnd p.1 p.2).map .int := hd
    show ds ++ [D.int (a * b)] = (((l.zip m).take (j + 1)).map fun p => Builtin.bitAnd p.1 p.2).map .int
    rw [hd, take_next hp, List.map_append, List.map_append, ← bitAnd01 b1 b2]
    rfl
  · have hd : ds = (((l.zip m).take (List.map (fun j : Nat => D.int (j : Int)) (List.range l.length)).length).map fun p => Builtin.bitAnd p.1 p.2).map .int := hd
    rw [List.length_map, List.length_range, List.take_of_length_le (by rw [List.length_zip]; omega)] at hd
    subst hd
    refine da_nil ?_
    refine cd_sum ?_
    refine da_nil ?_
    refine cd_int ?_
    refine de_int ?_
    refine od_modI (by decide) ?_
    exact hΦ
def sp__law_square_of : DSp := fun ds Φ _ => ∃ l m : List Int, ds = [wd l, wd m] ∧ bitsI l ∧ l.length ≤ 1000 ∧ m.length ≤ 1000 ∧ Φ (sq (l.map fun a => m.map fun b => a * b))
theorem sc__law_square_of : FnScope ["_law_one", "_law_other", "_law_b", "_law_a"] ["_law_one", "_law_other"] (defScope s_Lsquare_of) := ⟨rfl, rfl, rfl, by decide +kernel, rfl, by decide +kernel, by decide +kernel⟩
theorem ok__law_square_of (T : Tx K mg base) : Cal P w K mg base 1 "_law_square_of" sp__law_square_of := by
  refine cal_of T 30 rfl rfl sc__law_square_of (fun _ _ _ _ _ _ us hl => match us, hl with | [_, _], _ => rfl) (fun ds Φ Ψ ⟨_, _, h, _⟩ => by rw [h] <;> rfl) fun cdv A outer s H E hcd hr ds Φ Ψ h => ?_
  have sc := sc__law_square_of
  obtain ⟨l, m, rfl, hl, hz, hz2, hΦ⟩ := h
  have zz : (2000 : Nat) < sizeLine := by decide
  refine dss_one (ds_ret ?_)
  refine de_callTy call_tuple_of rfl (b_tuple T) (by decide +kernel) ?_
  refine da_cons ?_
  refine de_lc 3 rfl sc.nd rfl (show BlkOk ["_law_one", "_law_other", "_law_b", "_law_a"] (defScope s_Lsquare_of) _ [("_law_a", 3)] from ⟨rfl, by decide +kernel, by decide +kernel, by decide +kernel, by decide +kernel⟩) (by walk_at "loc") (by walk_at "locf") ?_
  refine df_tup ?_
  refine de_var 0 rfl (.inl rfl) rfl ?_
  refine ⟨_, rfl, by rw [List.length_map]; omega, fun j ds => ds = ((l.take j).map fun a => m.map fun b => a * b).map wd, rfl, fun j y ds hy hd s0 H0 C cl fp => ?_, fun ds hd => ?_⟩
  · obtain ⟨a, ha, rfl⟩ := map_get hy
    have hab := hl a (List.mem_of_getElem? ha)
    refine de_callTy call_tuple_of rfl (b_tuple T) (by decide +kernel) ?_
    refine da_cons ?_
    refine de_lc 2 rfl sc.nd rfl (show BlkOk ["_law_one", "_law_other", "_law_b", "_law_a"] (relS _ (defScope s_Lsquare_of)) _ [("_law_b", 2)] from ⟨rfl, by decide +kernel, by decide +kernel, by decide +kernel, by decide +kernel⟩) (by walk_at "loc") (by walk_at "locf") ?_
    refine df_tup ?_
    refine de_var 1 rfl (by walk_at "vis") rfl ?_
    refine ⟨_, rfl, by rw [List.length_map]; omega, fun j ds => ds = ((m.take j).map fun b => a * b).map .int, rfl, fun j1 y1 ds1 hy1 hd1 s0 H0 C cl fp => ?_, fun ds1 hd1 => ?_⟩
    · obtain ⟨b, hb, rfl⟩ := map_get hy1
      refine de_op op_mulU ?_
      refine de_var 3 rfl (by walk_at "vis") rfl ?_
      refine de_var 2 rfl (by walk_at "vis") rfl ?_
      refine od_mulI (.inl ⟨by omega, by omega⟩) ?_
      have hd1 : ds1 = ((m.take j1).map fun b => a * b).map .int := hd1
      show ds1 ++ [D.int (a * b)] = ((m.take (j1 + 1)).map fun b => a * b).map .int
      rw [hd1, take_next hb, List.map_append, List.map_append]
      rfl
    · refine da_nil ?_
      refine cd_tuple ?_
      have hd1 : ds1 = ((m.take (m.map D.int).length).map fun b => a * b).map .int := hd1
      rw [List.length_map, List.take_length] at hd1
      have hd : ds = ((l.take j).map fun a => m.map fun b => a * b).map wd := hd
      show ds ++ [D.tup ds1] = ((l.take (j + 1)).map fun a => m.map fun b => a * b).map wd
      rw [hd, hd1, take_next ha, List.map_append, List.map_append]
      rfl
  · refine da_nil ?_
    refine cd_tuple ?_
    have hd : ds = ((l.take (l.map D.int).length).map fun a => m.map fun b => a * b).map wd := hd
    rw [List.length_map, List.take_length] at hd
    rw [hd]
    exact hΦ
end
end Fr
end
-- FrL3
section
set_option Elab.async false
set_option linter.all false
set_option maxRecDepth 100000
/-! The walks: flat, rows, number, letter. -/
namespace Fr
open PySem PySem.Spec PyProof.Rows L2
-- macros
local macro_rules | `(tactic| walk_at "side") => `(tactic| first | assumption | omega | rfl | decide)
local macro_rules | `(tactic| walk_at "cm") => `(tactic| first | exact .inl ⟨by omega, by omega⟩ | exact .inr ⟨by omega, by omega⟩)
local macro_rules | `(tactic| walk_at "len") => `(tactic| first | decide | (show _ ≤ sizeLine; simp only [List.length_cons, List.length_nil]; decide))
local macro_rules | `(tactic| walk_at "add") => `(tactic| first | refine od_addI ?_ | refine od_addT (by walk_at "side") ?_ | refine od_addL (by walk_at "side") ?_)
local macro_rules | `(tactic| walk_at "mul") => `(tactic| first | refine od_mulI (by walk_at "cm") ?_ | refine od_mulT (by walk_at "side") (by walk_at "side") (by walk_at "side") ?_)
local macro_rules | `(tactic| walk_at "ok") => `(tactic| first | assumption | (simp only [D.ok, okL, Bool.and_true, Bool.true_and]; first | done | assumption | decide))
local macro_rules | `(tactic| walk_at "eq") => `(tactic| first | refine od_eqII ?_ | refine od_eq 20 20 (by walk_at "ok") (by walk_at "ok") (by omega) ?_)
local macro_rules | `(tactic| walk_at "ne") => `(tactic| first | refine od_neII ?_ | refine od_ne 20 20 (by walk_at "ok") (by walk_at "ok") (by omega) ?_)
local macro_rules | `(tactic| walk_at "slice") => `(tactic| first | refine .inl ⟨_, rfl, ?_⟩ | refine .inr ⟨_, rfl, ?_⟩)
local macro_rules | `(tactic| walk_at "vis") => `(tactic| first | exact .inl rfl | exact .inr (.inl rfl) | exact .inr (.inr rfl))
local macro_rules | `(tactic| walk_at "loc") => `(tactic| first | exact .inl rfl | exact .inr rfl)
local macro_rules | `(tactic| walk_at "locf") => `(tactic| first | exact .inr rfl | exact .inl rfl)
-- end macros
/-! ### what is said -/
def PTd (n : Nat) (f g : List Int) : D := .dic [("n", .int n), ("f", wd f), ("g", wd g)]
def PSd (n : Nat) (w : List Int) (q : List (List Int)) (ws : List (List Int)) (qs : List (List (List Int))) : D := .dic [("n", .int n), ("word", wd w), ("square", sq q), ("words", .tup (ws.map wd)), ("squares", .tup (qs.map sq))]
def letF (f l : List Int) : Int := (f[(bnum l).toNat]?).getD 0
def sumF (w : List Int) (ws : List (List Int)) (l : List Int) : Int := (par w l + if ws.contains l then 1 else 0) % 2
def sumG (q : List (List Int)) (qs : List (List (List Int))) (L : List (List Int)) : Int := (par q.flatten L.flatten + if qs.contains L then 1 else 0) % 2
theorem bnum_snoc (l : List Int) (x : Int) : bnum (l ++ [x]) = 2 * bnum l + x := by
  unfold bnum
  rw [List.foldl_append]
  rfl
theorem bnum_lt : ∀ (k : Nat) (l : List Int), l.length = k → bitsI l → 0 ≤ bnum l ∧ bnum l < 2 ^ k
  | 0, l, hl, _ => by
    rw [List.length_eq_zero_iff.mp hl]
    unfold bnum
    simp
  | k + 1, l, hl, hb => by
    obtain ⟨m, x, rfl⟩ : ∃ m x, l = m ++ [x] := ⟨l.dropLast, l.getLast (by intro z; rw [z] at hl; cases hl), (List.dropLast_concat_getLast _).symm⟩
    rw [List.length_append, List.length_singleton] at hl
    have ih := bnum_lt k m (by omega) fun y hy => hb y (List.mem_append_left _ hy)
    have hx := hb x (List.mem_append_right _ (List.mem_singleton.mpr rfl))
    rw [bnum_snoc, Int.pow_succ]
    omega
theorem flat_length {n : Nat} : ∀ {L : List (List Int)}, (∀ r ∈ L, r.length = n) → L.flatten.length = L.length * n
  | [], _ => by simp
  | r :: L, h => by
    rw [List.flatten_cons, List.length_append, h r List.mem_cons_self, flat_length fun x hx => h x (List.mem_cons_of_mem _ hx), List.length_cons, Nat.succ_mul]
    omega
theorem SqI.flat {n : Nat} {L : List (List Int)} (h : SqI n L) : WdI (n * n) L.flatten :=
  ⟨by rw [flat_length (n := n) fun r hr => (h.rows r hr).len, h.len], fun x hx => (let ⟨r, hr, hx⟩ := List.mem_flatten.mp hx; (h.rows r hr).bits x hx)⟩
section
variable {P : Program} {w : World} {K : PySem.W.Frag} {mg : Str → Option Value} {base : Heap}
def sp__law_flat : DSp := fun ds Φ _ => ∃ L : List (List Int), ds = [sq L] ∧ L.flatten.length ≤ 10000 ∧ Φ (wd L.flatten)
theorem sc__law_flat : FnScope ["_law_square_here", "_law_bits", "_law_row"] ["_law_square_here"] (defScope s_Lflat) := ⟨rfl, rfl, rfl, by decide +kernel, rfl, by decide +kernel, by decide +kernel⟩
theorem ok__law_flat (T : Tx K mg base) : Cal P w K mg base 1 "_law_flat" sp__law_flat := by
  refine cal_of T 31 rfl rfl sc__law_flat (fun _ _ _ _ _ _ us hl => match us, hl with | [_], _ => rfl) (fun ds Φ Ψ ⟨_, h, _⟩ => by rw [h] <;> rfl) fun cdv A outer s H E hcd hr ds Φ Ψ h => ?_
  have sc := sc__law_flat
  obtain ⟨L, rfl, hz, hΦ⟩ := h
  refine dss_cons (ds_set 1 sc.nd rfl (.inl rfl) ?_)
  refine de_tup (da_nil ⟨by walk_at "len", ?_⟩)
  refine dss_cons (ds_forT 2 rfl (passes_of rfl) sc.nd rfl (.inl rfl) ?_)
  refine de_var 0 rfl (.inl rfl) rfl ?_
  refine ⟨_, rfl, fun j δ' => ∃ z, δ' = [.v (sq L), .v (wd (L.take j).flatten), z] ∧ vO [z] = true, fun j δ' ⟨z, e, hz⟩ => by rw [e]; exact hz, ⟨.no, rfl, rfl⟩, fun j y δ' hy ⟨z, e, hz2⟩ => ?_, fun δ' ⟨z, e, hz⟩ => ?_⟩
  · subst e
    obtain ⟨r, hr1, rfl⟩ := map_get hy
    refine dss_one (ds_set 1 sc.nd rfl (.inl rfl) ?_)
    refine de_op op_addU ?_
    refine de_var 1 rfl (.inl rfl) rfl ?_
    refine de_var 2 rfl (.inl rfl) rfl ?_
    have q := flat_len hr1
    have zz : (20000 : Nat) < sizeLine := by decide
    refine od_addT (by rw [List.length_map, List.length_map]; omega) ?_
    exact ⟨.v (wd r), by rw [flat_step hr1, ← List.map_append]; rfl, rfl⟩
  · subst e
    refine dss_one (ds_ret ?_)
    refine de_var 1 rfl (.inl rfl) rfl ?_
    rw [List.length_map, List.take_length]
    exact hΦ
def sp__law_rows : DSp := fun ds Φ _ => ∃ (b : D) (l : List Int) (n : Nat), ds = [b, .int n] ∧ (b = wd l ∨ b = .lst (l.map .int)) ∧ l.length = n * n ∧ n ≤ 100 ∧ Φ (sq (rowsOf l n))
theorem sc__law_rows : FnScope ["_law_bits", "_law_n", "_law_at"] ["_law_bits", "_law_n"] (defScope s_Lrows) := ⟨rfl, rfl, rfl, by decide +kernel, rfl, by decide +kernel, by decide +kernel⟩
theorem ok__law_rows (T : Tx K mg base) : Cal P w K mg base 1 "_law_rows" sp__law_rows := by
  refine cal_of T 32 rfl rfl sc__law_rows (fun _ _ _ _ _ _ us hl => match us, hl with | [_, _], _ => rfl) (fun ds Φ Ψ ⟨_, _, _, h, _⟩ => by rw [h] <;> rfl) fun cdv A outer s H E hcd hr ds Φ Ψ h => ?_
  have sc := sc__law_rows
  obtain ⟨b, l, n, rfl, hb, hl, hn, hΦ⟩ := h
  have zz : (2000 : Nat) < sizeLine := by decide
  refine dss_one (ds_ret ?_)
  refine de_callTy call_tuple_of rfl (b_tuple T) (by decide +kernel) ?_
  refine da_cons ?_
  refine de_lc 2 rfl sc.nd rfl (show BlkOk ["_law_bits", "_law_n", "_law_at"] (defScope s_Lrows) _ [("_law_at", 2)] from ⟨rfl, by decide +kernel, by decide +kernel, by decide +kernel, by decide +kernel⟩) (by walk_at "loc") (by walk_at "locf") ?_
  refine df_range rfl (b_range T) ?_
  refine de_var 1 rfl (by walk_at "vis") rfl ?_
  refine ⟨n, rfl, by omega, by rw [List.length_map, List.length_range]; omega, fun j ds => ds = (((List.range n).take j).map fun i => wd ((l.drop (i * n)).take n)), rfl, fun j y ds hy hd s0 H0 C cl fp => ?_, fun ds hd => ?_⟩
  · obtain ⟨hj, rfl⟩ := range_at hy
    have hjn : (j + 1) * n ≤ n * n := Nat.mul_le_mul_right n hj
    rw [Nat.succ_mul] at hjn
    have fin : ∀ ds2 : List D, ds2 = cutL (l.map D.int) (some ((j : Int) * n)) (some ((j : Int) * n + n)) → ds ++ [D.tup ds2] = (((List.range n).take (j + 1)).map fun i => wd ((l.drop (i * n)).take n)) := fun ds2 e => by
      have e1 : ((j : Int) * n).toNat = j * n := by
        rw [show ((j : Int) * n) = ((j * n : Nat) : Int) by push_cast; rfl, Int.toNat_natCast]
      have e2 : ((j : Int) * n + n).toNat = j * n + n := by
        rw [show ((j : Int) * n + n) = ((j * n + n : Nat) : Int) by push_cast; rfl, Int.toNat_natCast]
      have p0 : (0 : Int) ≤ (j : Int) * n := Int.mul_nonneg (by omega) (by omega)
      rw [cutL_mid p0 (by omega) (by rw [e2, List.length_map, hl]; omega), e1, e2, ← List.map_drop, ← List.map_take] at e
      have hd : ds = (((List.range n).take j).map fun i => wd ((l.drop (i * n)).take n)) := hd
      rw [hd, take_next (show (List.range n)[j]? = some j from List.getElem?_range hj), List.map_append, e, show j * n + n - j * n = n by omega]
      rfl
    refine de_callTy call_tuple_of rfl (b_tuple T) (by decide +kernel) ?_
    refine da_cons ?_
    refine de_sl ?_
    refine de_var 0 rfl (by walk_at "vis") rfl ?_
    refine do_some ?_
    refine de_op op_mulU ?_
    refine de_var 2 rfl (by walk_at "vis") rfl ?_
    refine de_var 1 rfl (by walk_at "vis") rfl ?_
    refine od_mulI (.inl ⟨by omega, by omega⟩) ?_
    refine ⟨_, rfl, ?_⟩
    refine do_some ?_
    refine de_op op_addU ?_
    refine de_op op_mulU ?_
    refine de_var 2 rfl (by walk_at "vis") rfl ?_
    refine de_var 1 rfl (by walk_at "vis") rfl ?_
    refine od_mulI (.inl ⟨by omega, by omega⟩) ?_
    refine de_var 1 rfl (by walk_at "vis") rfl ?_
    walk_at "add"
    refine ⟨_, rfl, ?_⟩
    rcases hb with rfl | rfl
    · refine .inl ⟨_, rfl, ?_⟩
      refine da_nil ?_
      exact cd_tupleT (fin _ rfl)
    · refine .inr ⟨_, rfl, ?_⟩
      refine da_nil ?_
      exact cd_tuple (fin _ rfl)
  · have hd : ds = (((List.range n).take ((List.range n).map fun j : Nat => D.int (j : Int)).length).map fun i => wd ((l.drop (i * n)).take n)) := hd
    rw [List.length_map, List.take_length] at hd
    refine da_nil ?_
    refine cd_tuple ?_
    rw [hd]
    unfold rowsOf at hΦ
    have e : sq (List.map (fun i => (l.drop (i * n)).take n) (List.range n)) = .tup ((List.range n).map fun i => wd ((l.drop (i * n)).take n)) := by
      show D.tup _ = _
      rw [List.map_map]
      rfl
    rw [← e]
    exact hΦ
def sp__law_square : DSp := fun ds Φ _ => ∃ n : Nat, ds = [.tape, .int n] ∧ n ≤ 12 ∧ ∀ L, SqI n L → Φ (sq L)
theorem sc__law_square : FnScope ["_law_tape_here", "_law_n"] ["_law_tape_here", "_law_n"] (defScope s_Lsquare) := ⟨rfl, rfl, rfl, by decide +kernel, rfl, by decide +kernel, by decide +kernel⟩
theorem ok__law_square (T : Tx K mg base) : Cal P w K mg base 4 "_law_square" sp__law_square := by
  refine cal_of T 33 rfl rfl sc__law_square (fun _ _ _ _ _ _ us hl => match us, hl with | [_, _], _ => rfl) (fun ds Φ Ψ ⟨_, h, _⟩ => by rw [h] <;> rfl) fun cdv A outer s H E hcd hr ds Φ Ψ h => ?_
  obtain ⟨n, rfl, hn, hΦ⟩ := h
  refine dss_one (ds_ret ?_)
  refine de_call (ok__law_rows T) (hr.mono (by decide)) rfl ?_
  refine da_cons ?_
  refine de_call (ok__law_word T) hr rfl ?_
  refine da_cons ?_
  refine de_var 0 rfl (.inl rfl) rfl ?_
  refine da_cons ?_
  refine de_op op_mulU ?_
  refine de_var 1 rfl (.inl rfl) rfl ?_
  refine de_var 1 rfl (.inl rfl) rfl ?_
  refine od_mulI (.inl ⟨by omega, by omega⟩) ?_
  refine da_nil ?_
  have hnn : n * n ≤ 12 * 12 := Nat.mul_le_mul hn hn
  refine ⟨n * n, by push_cast; rfl, by omega, fun l hl => ?_⟩
  refine da_cons ?_
  refine de_var 1 rfl (.inl rfl) rfl ?_
  refine da_nil ?_
  exact ⟨_, l, n, rfl, .inl rfl, hl.len, by omega, hΦ _ (rows_sq hl.bits hl.len)⟩
def sp__law_number : DSp := fun ds Φ _ => ∃ l : List Int, ds = [wd l] ∧ Φ (.int (bnum l))
theorem sc__law_number : FnScope ["_law_bits", "_law_found", "_law_bit"] ["_law_bits"] (defScope s_Lnumber) := ⟨rfl, rfl, rfl, by decide +kernel, rfl, by decide +kernel, by decide +kernel⟩
theorem ok__law_number (T : Tx K mg base) : Cal P w K mg base 1 "_law_number" sp__law_number := by
  refine cal_of T 35 rfl rfl sc__law_number (fun _ _ _ _ _ _ us hl => match us, hl with | [_], _ => rfl) (fun ds Φ Ψ ⟨_, h, _⟩ => by rw [h] <;> rfl) fun cdv A outer s H E hcd hr ds Φ Ψ h => ?_
  have sc := sc__law_number
  obtain ⟨l, rfl, hΦ⟩ := h
  refine dss_cons (ds_set 1 sc.nd rfl (.inl rfl) ?_)
  refine de_int ?_
  refine dss_cons (ds_forT 2 rfl (passes_of rfl) sc.nd rfl (.inl rfl) ?_)
  refine de_var 0 rfl (.inl rfl) rfl ?_
  refine ⟨_, rfl, fun j δ' => ∃ z, δ' = [.v (wd l), .v (.int (bnum (l.take j))), z] ∧ vO [z] = true, fun j δ' ⟨z, e, hz⟩ => by rw [e]; exact hz, ⟨.no, rfl, rfl⟩, fun j y δ' hy ⟨z, e, hz⟩ => ?_, fun δ' ⟨z, e, hz⟩ => ?_⟩
  · subst e
    obtain ⟨x, hx, rfl⟩ := map_get hy
    refine dss_one (ds_set 1 sc.nd rfl (.inl rfl) ?_)
    refine de_op op_addU ?_
    refine de_op op_mulU ?_
    refine de_int ?_
    refine de_var 1 rfl (.inl rfl) rfl ?_
    walk_at "mul"
    refine de_var 2 rfl (.inl rfl) rfl ?_
    walk_at "add"
    exact ⟨.v (.int x), by rw [bnum_step hx]; rfl, rfl⟩
  · subst e
    refine dss_one (ds_ret ?_)
    refine de_var 1 rfl (.inl rfl) rfl ?_
    rw [List.length_map, List.take_length]
    exact hΦ
/-- the letter's answer, by the paper, the kind, the thing -/
def sp__law_letter : DSp := fun ds Φ _ => ∃ (n : Nat) (p th : D) (k : Str), ds = [p, .tup [.str k, th]] ∧ n ≤ 12 ∧
  ((∃ l, k = "f" ∧ th = wd l ∧ WdI n l ∧ ((∃ f g, p = PTd n f g ∧ f.length = 2 ^ n ∧ Φ (.int (letF f l))) ∨ ∃ w q ws qs, p = PSd n w q ws qs ∧ WdI n w ∧ Φ (.int (sumF w ws l)))) ∨
   ∃ L, k = "g" ∧ th = sq L ∧ SqI n L ∧ ((∃ f g, p = PTd n f g ∧ g.length = 2 ^ (n * n) ∧ Φ (.int (letF g L.flatten))) ∨ ∃ w q ws qs, p = PSd n w q ws qs ∧ SqI n q ∧ Φ (.int (sumG q qs L))))
theorem sc__law_letter : FnScope ["_law_paper", "_law_place", "_law_kind", "_law_thing"] ["_law_paper", "_law_place"] (defScope s_Lletter) := ⟨rfl, rfl, rfl, by decide +kernel, rfl, by decide +kernel, by decide +kernel⟩
theorem let_at {f l : List Int} {k : Nat} (hf : f.length = 2 ^ k) (hl : WdI k l) : atI (f.map D.int) (bnum l) = some (.int (letF f l)) := by
  obtain ⟨h0, h1⟩ := bnum_lt k l hl.len hl.bits
  have hi : (bnum l).toNat < f.length := by
    rw [hf]
    have : ((2 ^ k : Nat) : Int) = 2 ^ k := by push_cast; rfl
    omega
  refine atI_nat h0 ?_
  unfold letF
  rw [List.getElem?_map, List.getElem?_eq_getElem hi]
  rfl
theorem wds_ok (ws : List (List Int)) (n : Nat) : (D.tup (ws.map wd)).ok (n + 2) = true := ok_sq ws n
theorem sqs_ok (qs : List (List (List Int))) (n : Nat) : (D.tup (qs.map sq)).ok (n + 3) = true := by
  rw [ok_tup, okL_iff]
  intro d hd
  obtain ⟨q, _, rfl⟩ := List.mem_map.mp hd
  exact ok_sq q n
theorem ok__law_letter (T : Tx K mg base) : Cal P w K mg base 2 "_law_letter" sp__law_letter := by
  refine cal_of T 36 rfl rfl sc__law_letter (fun _ _ _ _ _ _ us hl => match us, hl with | [_, _], _ => rfl) (fun ds Φ Ψ ⟨_, _, _, _, h, _⟩ => by rw [h] <;> rfl) fun cdv A outer s H E hcd hr ds Φ Ψ h => ?_
  have sc := sc__law_letter
  have hu := u1_of hr
  obtain ⟨n, p, th, k, rfl, hn, hc⟩ := h
  have hnn : n * n ≤ 12 * 12 := Nat.mul_le_mul hn hn
  have kf : (D.str "f").ok 0 = true := by decide +kernel
  have kg : (D.str "g").ok 0 = true := by decide +kernel
  refine dss_cons (ds_asg2 2 3 rfl sc.nd rfl rfl (.inl rfl) (.inl rfl) ?_)
  refine de_var 1 rfl (.inl rfl) rfl ?_
  refine ⟨_, _, rfl, ?_⟩
  refine dss_cons (ds_if ?_)
  refine dt_dic hu ?_
  refine de_str ?_
  refine de_var 0 rfl (.inl rfl) rfl ?_
  rcases hc with ⟨l, rfl, rfl, hl, hc⟩ | ⟨L, rfl, rfl, hL, hc⟩
  · rcases hc with ⟨f, g, rfl, hf, hΦ⟩ | ⟨w', q, ws, qs, rfl, hw, hΦ⟩
    · refine ⟨_, _, rfl, rfl, fun _ => ?_, fun z => (by cases z)⟩
      refine dss_cons (ds_if ?_)
      refine dt_cmpO (op_eqD hr.units) rfl ?_
      refine de_var 2 rfl (.inl rfl) rfl ?_
      refine de_str ?_
      refine od_eq 0 0 kf kf (by omega) (isBl_of ?_)
      rw [eqv_ss, beq_self_eq_true]
      refine ⟨fun _ => ?_, fun z => (by cases z)⟩
      refine dss_one (ds_ret ?_)
      refine de_ix ?_
      refine de_dget hu ?_
      refine de_var 0 rfl (.inl rfl) rfl ?_
      refine de_str ?_
      refine ⟨_, _, wd f, rfl, rfl, rfl, ?_⟩
      refine de_call (ok__law_number T) hr rfl ?_
      refine da_cons ?_
      refine de_var 3 rfl (.inl rfl) rfl ?_
      refine da_nil ?_
      exact ⟨l, rfl, _, _, _, .inl rfl, rfl, let_at hf hl, hΦ⟩
    · refine ⟨_, _, rfl, rfl, fun z => (by cases z), fun _ => ?_⟩
      refine dss_nil ?_
      refine dss_cons (ds_if ?_)
      refine dt_cmpO (op_eqD hr.units) rfl ?_
      refine de_var 2 rfl (.inl rfl) rfl ?_
      refine de_str ?_
      refine od_eq 0 0 kf kf (by omega) (isBl_of ?_)
      rw [eqv_ss, beq_self_eq_true]
      refine ⟨fun _ => ?_, fun z => (by cases z)⟩
      refine dss_one (ds_ret ?_)
      refine de_op op_mod ?_
      refine de_callTy call_int1 rfl (b_int T) (by decide +kernel) ?_
      refine da_cons ?_
      refine de_op op_addU ?_
      refine de_call (ok__law_times_word T) hr rfl ?_
      refine da_cons ?_
      refine de_dget hu ?_
      refine de_var 0 rfl (.inl rfl) rfl ?_
      refine de_str ?_
      refine ⟨_, _, wd w', rfl, rfl, rfl, ?_⟩
      refine da_cons ?_
      refine de_var 3 rfl (.inl rfl) rfl ?_
      refine da_nil ?_
      refine ⟨w', l, rfl, hw.bits, hl.bits, by rw [hw.len, hl.len], by rw [hw.len]; omega, ?_⟩
      refine de_callTy call_int1 rfl (b_int T) (by decide +kernel) ?_
      refine da_cons ?_
      refine de_cmpO (op_inU hr) rfl ?_
      refine de_var 3 rfl (.inl rfl) rfl ?_
      refine de_dget hu ?_
      refine de_var 0 rfl (.inl rfl) rfl ?_
      refine de_str ?_
      refine ⟨_, _, .tup (ws.map wd), rfl, rfl, rfl, ?_⟩
      refine od_inT 9 9 (ok_wd l 8) (wds_ok ws 7) (by omega) ?_
      rw [any_wd]
      refine da_nil ?_
      refine cd_intB ?_
      walk_at "add"
      refine da_nil ?_
      refine cd_int ?_
      refine de_int ?_
      refine od_modI (by decide) ?_
      exact hΦ
  · rcases hc with ⟨f, g, rfl, hg, hΦ⟩ | ⟨w', q, ws, qs, rfl, hq, hΦ⟩
    · refine ⟨_, _, rfl, rfl, fun _ => ?_, fun z => (by cases z)⟩
      refine dss_cons (ds_if ?_)
      refine dt_cmpO (op_eqD hr.units) rfl ?_
      refine de_var 2 rfl (.inl rfl) rfl ?_
      refine de_str ?_
      refine od_eq 0 0 kg kf (by omega) (isBl_of ?_)
      rw [eqv_ss, show (("g" : Str) == ("f" : Str)) = false by decide +kernel]
      refine ⟨fun z => (by cases z), fun _ => ?_⟩
      refine dss_nil ?_
      refine dss_one (ds_ret ?_)
      refine de_ix ?_
      refine de_dget hu ?_
      refine de_var 0 rfl (.inl rfl) rfl ?_
      refine de_str ?_
      refine ⟨_, _, wd g, rfl, rfl, rfl, ?_⟩
      refine de_call (ok__law_number T) hr rfl ?_
      refine da_cons ?_
      refine de_call (ok__law_flat T) hr rfl ?_
      refine da_cons ?_
      refine de_var 3 rfl (.inl rfl) rfl ?_
      refine da_nil ?_
      refine ⟨L, rfl, by rw [hL.flat.len]; omega, ?_⟩
      refine da_nil ?_
      exact ⟨_, rfl, _, _, _, .inl rfl, rfl, let_at hg hL.flat, hΦ⟩
    · refine ⟨_, _, rfl, rfl, fun z => (by cases z), fun _ => ?_⟩
      refine dss_nil ?_
      refine dss_cons (ds_if ?_)
      refine dt_cmpO (op_eqD hr.units) rfl ?_
      refine de_var 2 rfl (.inl rfl) rfl ?_
      refine de_str ?_
      refine od_eq 0 0 kg kf (by omega) (isBl_of ?_)
      rw [eqv_ss, show (("g" : Str) == ("f" : Str)) = false by decide +kernel]
      refine ⟨fun z => (by cases z), fun _ => ?_⟩
      refine dss_nil ?_
      refine dss_one (ds_ret ?_)
      refine de_op op_mod ?_
      refine de_callTy call_int1 rfl (b_int T) (by decide +kernel) ?_
      refine da_cons ?_
      refine de_op op_addU ?_
      refine de_call (ok__law_times_word T) hr rfl ?_
      refine da_cons ?_
      refine de_call (ok__law_flat T) hr rfl ?_
      refine da_cons ?_
      refine de_dget hu ?_
      refine de_var 0 rfl (.inl rfl) rfl ?_
      refine de_str ?_
      refine ⟨_, _, sq q, rfl, rfl, rfl, ?_⟩
      refine da_nil ?_
      refine ⟨q, rfl, by rw [hq.flat.len]; omega, ?_⟩
      refine da_cons ?_
      refine de_call (ok__law_flat T) hr rfl ?_
      refine da_cons ?_
      refine de_var 3 rfl (.inl rfl) rfl ?_
      refine da_nil ?_
      refine ⟨L, rfl, by rw [hL.flat.len]; omega, ?_⟩
      refine da_nil ?_
      refine ⟨_, _, rfl, hq.flat.bits, hL.flat.bits, by rw [hq.flat.len, hL.flat.len], by rw [hq.flat.len]; omega, ?_⟩
      refine de_callTy call_int1 rfl (b_int T) (by decide +kernel) ?_
      refine da_cons ?_
      refine de_cmpO (op_inU hr) rfl ?_
      refine de_var 3 rfl (.inl rfl) rfl ?_
      refine de_dget hu ?_
      refine de_var 0 rfl (.inl rfl) rfl ?_
      refine de_str ?_
      refine ⟨_, _, .tup (qs.map sq), rfl, rfl, rfl, ?_⟩
      refine od_inT 9 9 (ok_sq L 7) (sqs_ok qs 6) (by omega) ?_
      rw [any_sq]
      refine da_nil ?_
      refine cd_intB ?_
      walk_at "add"
      refine da_nil ?_
      refine cd_int ?_
      refine de_int ?_
      refine od_modI (by decide) ?_
      exact hΦ
end
end Fr
end
-- FrRaise
section
set_option Elab.async false
set_option linter.all false
set_option maxRecDepth 100000
/-! The error classes; raise. -/
namespace Fr
open PySem PySem.Spec PyProof.Rows L2
/-! ### what the head told of the classes -/
theorem an1 {a b : Bool} (h : (a && b) = true) : a = true := (Bool.and_eq_true_iff.mp h).1
theorem an2 {a b : Bool} (h : (a && b) = true) : b = true := (Bool.and_eq_true_iff.mp h).2
def xNm : Nat → Str
  | 0 => "InvalidWord"
  | 1 => "InvalidSquare"
  | _ => "InvalidPaper"
/-- moreB's parts, by their places -/
structure MoreP (K : PySem.W.Frag) : Prop where
  oex : ∀ c : Nat, oexB K (xA K c) = true ∧ oexD K (xA K c) (He.fAd K (xNm c, some "__init__")) = true
  ins : ∀ c : Nat, insB K (cA K c) = true
  pr : kit1 K (gV K "InvalidPaper") (gV K "ReadError") true = true
  ps : kit1 K (gV K "InvalidPaper") (gV K "InvalidSystem") false = true
  tt : kit1 K (gV K "TablePaper") (gV K "TablePaper") true = true
  ss : kit1 K (gV K "SumsPaper") (gV K "SumsPaper") true = true
  st : kit1 K (gV K "SumsPaper") (gV K "TablePaper") false = true
  ts : kit1 K (gV K "TablePaper") (gV K "SumsPaper") false = true
  ut : kit1 K (.type "tuple") (gV K "TablePaper") false = true
  us : kit1 K (.type "tuple") (gV K "SumsPaper") false = true
  nt : kit1 K (.type "NoneType") (gV K "TablePaper") false = true
  cg : PySem.W.specialIn K (.builtin "object.__class__") "__get__" = some (some (.builtin "getset_descriptor.__get__"))
  ct : PySem.W.takesIn K (.builtin "object.__class__") = some true
  s1 : PySem.W.subIn K (gV K "SumsPaper") (gV K "TablePaper") = some false
  s2 : PySem.W.subIn K (.type "tuple") (gV K "TablePaper") = some false
  s3 : PySem.W.subIn K (.type "tuple") (gV K "SumsPaper") = some false
  s4 : PySem.W.subIn K (.type "NoneType") (gV K "TablePaper") = some false
  e1 : emptyT K (kwAt ("SumsPaper", some "__init__") "words" K) = true
  e2 : emptyT K (kwAt ("SumsPaper", some "__init__") "squares" K) = true
section
variable {K : PySem.W.Frag} {mg : Str → Option Value} {base : Heap}
theorem more_parts (h : moreB K = true) : MoreP K := by
  unfold moreB at h
  have h24 := an1 h
  have h23 := an1 h24
  have h22 := an1 h23
  have h21 := an1 h22
  have h20 := an1 h21
  have h19 := an1 h20
  have h18 := an1 h19
  have h17 := an1 h18
  have h16 := an1 h17
  have h15 := an1 h16
  have h14 := an1 h15
  have h13 := an1 h14
  have h12 := an1 h13
  have h11 := an1 h12
  have h10 := an1 h11
  have h9 := an1 h10
  have h8 := an1 h9
  have h7 := an1 h8
  have h6 := an1 h7
  have h5 := an1 h6
  have h4 := an1 h5
  have h3 := an1 h4
  have h2 := an1 h3
  have h1 := an1 h2
  exact ⟨fun c => match c with
    | 0 => ⟨an1 h1, an2 h3⟩
    | 1 => ⟨an2 h1, an2 h4⟩
    | _ + 2 => ⟨an2 h2, an2 h5⟩, fun c => match c with
    | 0 => an2 h6
    | _ + 1 => an2 h7, an2 h8, an2 h9, an2 h10, an2 h11, an2 h12, an2 h13, an2 h14, an2 h15, an2 h16, of_decide_eq_true (an2 h17), of_decide_eq_true (an2 h18), of_decide_eq_true (an2 h19), of_decide_eq_true (an2 h20), of_decide_eq_true (an2 h21), of_decide_eq_true (an2 h22), an2 h23, an2 h24⟩
theorem tail_refs : ∀ l : List Value, PySem.W.excTail He.veBase l = true → PySem.HandSPX.refsVE l = true := fun l => by
  induction l with
  | nil => intro h; cases h
  | cons a r ih =>
    intro h
    rcases PySem.W.excTail_cases (a :: r) h with ⟨c, r', e, h'⟩ | e
    · obtain ⟨rfl, rfl⟩ := List.cons.inj e
      exact ih h'
    · rw [e]
      decide +kernel
theorem oexC_of {C : Addr} (h : oexB K C = true) (hx : xfB K C = true) : OexC K C := by
  unfold oexB at h
  have g4 := an1 h
  have g3 := an1 g4
  have g2 := an1 g3
  have q := an1 g2
  have hd := (xfB_ok hx).hdC
  refine ⟨?_, of_decide_eq_true (an2 g2), of_decide_eq_true (an2 g3), of_decide_eq_true (an2 g4), an2 h⟩
  unfold PySem.W.excInitIn at q
  unfold PySem.W.hasDictIn PySem.W.clsIn at hd
  split at q
  · rename_i dd cd sl ho
    split at q
    · rename_i C' bm k0 k1 k2 k3 n k5 hm hs
      simp only [Bool.and_eq_true, beq_iff_eq, Bool.not_eq_true'] at q
      obtain ⟨⟨⟨rfl, rfl⟩, hdel⟩, ht⟩ := q
      obtain ⟨nm, bs, mro, ns, qn, hd', sn, sub, ab, col, del⟩ := cd
      dsimp only at hm hdel
      subst hm hdel
      have hsl : sl = #[k0, k1, k2, k3, some (.builtin "ValueError.__new__"), k5] := by
        obtain ⟨l⟩ := sl
        simp only at hs
        rw [hs]
      subst hsl
      rw [ho] at hd
      have hd : hd' = true := by simpa using hd
      subst hd
      exact ⟨nm, qn, ns, bs, bm, sn, sub, ab, col, dd, k0, k1, k2, k3, k5, ho, tail_refs bm ht⟩
    · cases q
  · cases q
/-- an error class of ours -/
structure Exk (K : PySem.W.Frag) (mg : Str → Option Value) (c : Nat) : Prop where
  oex : OexC K (xA K c)
  xf : XfC K (xA K c)
  ini : PySem.W.findIn K (.ref (xA K c)) "__init__" = some (some (.ref (He.fAd K (xNm c, some "__init__"))))
  fn : PySem.W.typeIn K (.ref (He.fAd K (xNm c, some "__init__"))) = some (.type "function")
  gl : mg (xNm c) = some (.ref (xA K c))
  cl : PySem.W.findIn K (.ref (xA K c)) "__class__" = some (some (.builtin "object.__class__"))
  ob : PySem.W.mroIn K (xA K c) (.type "object") = some true
theorem exk_of (T : Tx K mg base) (c : Nat) : Exk K mg c := by
  have M := more_parts T.m
  obtain ⟨h1, h2⟩ := M.oex c
  unfold oexD at h2
  have g4 := an1 h2
  have g3 := an1 g4
  have g2 := an1 g3
  refine ⟨oexC_of h1 (an2 g3), xfB_ok (an2 g3), of_decide_eq_true (an1 g2), of_decide_eq_true (an2 g2), ?_, of_decide_eq_true (an2 g4), of_decide_eq_true (an2 h2)⟩
  match c with
  | 0 => exact T.glo 51 rfl
  | 1 => exact T.glo 52 rfl
  | _ + 2 => exact T.glo 53 rfl
end
/-! ### the errors' own __init__ -/
def sp_xi (K : PySem.W.Frag) (c : Nat) : Sp := fun vs H Q _ => ∃ (a : Addr) (us : List V), vs = .ref a :: us ∧ us.length = (xN c).length ∧ H a = some (exo a (xA K c) none) ∧
  ∀ dx, H dx = none → dx ≠ a → Q .non (upd (upd H dx (exd dx ((xN c).zip us.reverse))) a (exo a (xA K c) (some dx)))
structure XiOk (P : Program) (w : World) (K : PySem.W.Frag) (mg : Str → Option Value) (base : Heap) (c : Nat) : Prop where
  k : Exk K mg c
  ex : ∃ (fd : FuncData) (ps : List Str), FnOk P w K mg base (L2.CX P w) 1 (He.fAd K (xNm c, some "__init__")) fd ps (sp_xi K c) ∧ Binds K fd ps []
section
variable {P : Program} {w : World} {K : PySem.W.Frag} {mg : Str → Option Value} {base : Heap}
theorem upd_swap {H : Hp} {a b : Addr} {o u : HO} (h : a ≠ b) : upd (upd H a o) b u = upd (upd H b u) a o := by
  funext c
  by_cases h1 : c = a
  · subst h1
    rw [upd_ne h, upd_same, upd_same]
  · by_cases h2 : c = b
    · subst h2
      rw [upd_same, upd_ne h1, upd_same]
    · rw [upd_ne h2, upd_ne h1, upd_ne h1, upd_ne h2]
theorem xi0 (T : Tx K mg base) : XiOk P w K mg base 0 := by
  have X0 := exk_of T 0
  refine ⟨X0, ?_⟩
  obtain ⟨fd, F⟩ := T.d.def_ 51 (d := d_InvalidWord_init) rfl
  refine ⟨fd, ["self", "value"], F.ok (show FnScope ["self", "value"] ["self", "value"] (defScope s_InvalidWord_init) from ⟨rfl, rfl, rfl, by decide +kernel, rfl, by decide +kernel, by decide +kernel⟩) (fun vs H Q E ⟨a, us, e, hl, _⟩ => by rw [e, List.length_cons, hl]; rfl) fun cdv A outer s H vs Q E hr ⟨a, us, e, hl, ha, h⟩ => ?_, F.bindsN fun _ _ _ _ _ _ us hl => match us, hl with | [_, _], _ => rfl⟩
  obtain ⟨v, rfl⟩ : ∃ v, us = [v] := List.length_eq_one_iff.mp hl
  subst e
  refine ⟨_, pss_one (ps_ost (pe_var (i := 0) rfl (.inl rfl)) (pe_var (i := 1) rfl (.inl rfl))), v, rfl, _, rfl, a, xA K 0, rfl, X0.oex, He.noat_ok (T.d.fact 90 (f := .noat "InvalidWord" "value") rfl), .inl ⟨ha, fun dx h1 h2 => h dx h1 h2⟩⟩
theorem xi1 (T : Tx K mg base) : XiOk P w K mg base 1 := by
  have X0 := exk_of T 1
  refine ⟨X0, ?_⟩
  obtain ⟨fd, F⟩ := T.d.def_ 52 (d := d_InvalidSquare_init) rfl
  refine ⟨fd, ["self", "value"], F.ok (show FnScope ["self", "value"] ["self", "value"] (defScope s_InvalidSquare_init) from ⟨rfl, rfl, rfl, by decide +kernel, rfl, by decide +kernel, by decide +kernel⟩) (fun vs H Q E ⟨a, us, e, hl, _⟩ => by rw [e, List.length_cons, hl]; rfl) fun cdv A outer s H vs Q E hr ⟨a, us, e, hl, ha, h⟩ => ?_, F.bindsN fun _ _ _ _ _ _ us hl => match us, hl with | [_, _], _ => rfl⟩
  obtain ⟨v, rfl⟩ : ∃ v, us = [v] := List.length_eq_one_iff.mp hl
  subst e
  refine ⟨_, pss_one (ps_ost (pe_var (i := 0) rfl (.inl rfl)) (pe_var (i := 1) rfl (.inl rfl))), v, rfl, _, rfl, a, xA K 1, rfl, X0.oex, He.noat_ok (T.d.fact 93 (f := .noat "InvalidSquare" "value") rfl), .inl ⟨ha, fun dx h1 h2 => h dx h1 h2⟩⟩
theorem xi2 (T : Tx K mg base) : XiOk P w K mg base 2 := by
  have X0 := exk_of T 2
  refine ⟨X0, ?_⟩
  obtain ⟨fd, F⟩ := T.d.def_ 53 (d := d_InvalidPaper_init) rfl
  refine ⟨fd, ["self", "part", "place"], F.ok (show FnScope ["self", "part", "place"] ["self", "part", "place"] (defScope s_InvalidPaper_init) from ⟨rfl, rfl, rfl, by decide +kernel, rfl, by decide +kernel, by decide +kernel⟩) (fun vs H Q E ⟨a, us, e, hl, _⟩ => by rw [e, List.length_cons, hl]; rfl) fun cdv A outer s H vs Q E hr ⟨a, us, e, hl, ha, h⟩ => ?_, F.bindsN fun _ _ _ _ _ _ us hl => match us, hl with | [_, _, _], _ => rfl⟩
  obtain ⟨v, u, rfl⟩ : ∃ v u, us = [v, u] := match us, hl with
    | [v, u], _ => ⟨v, u, rfl⟩
  subst e
  refine ⟨_, pss_cons (ps_ost (pe_var (i := 0) rfl (.inl rfl)) (pe_var (i := 1) rfl (.inl rfl))) (pss_one (ps_ost (pe_var (i := 0) rfl (.inl rfl)) (pe_var (i := 2) rfl (.inl rfl)))), v, rfl, _, rfl, a, xA K 2, rfl, X0.oex, He.noat_ok (T.d.fact 96 (f := .noat "InvalidPaper" "part") rfl), .inl ⟨ha, fun dx h1 h2 => ?_⟩⟩
  refine ⟨u, rfl, _, rfl, a, xA K 2, rfl, X0.oex, He.noat_ok (T.d.fact 97 (f := .noat "InvalidPaper" "place") rfl), .inr ⟨dx, [("part", v)], upd_same, by rw [upd_ne h2, upd_same], show 1 ≤ 900 by decide, ?_⟩⟩
  have e : upd (upd (upd H dx (exd dx [("part", v)])) a (exo a (xA K 2) (some dx))) dx (exd dx [("place", u), ("part", v)]) = upd (upd H dx (exd dx [("place", u), ("part", v)])) a (exo a (xA K 2) (some dx)) := by
    rw [upd_swap (Ne.symm h2), upd_upd]
  show Q .non (upd (upd (upd H dx (exd dx [("part", v)])) a (exo a (xA K 2) (some dx))) dx (exd dx [("place", u), ("part", v)]))
  rw [e]
  exact h dx h1 h2
end
theorem datF_zip {K : PySem.W.Frag} {H : Hp} : ∀ {ns : List Str} {vs : List V} {ds : List D}, DatL K H vs ds → vs.length = ns.length → DatF K H (ns.zip vs) ns ds
  | [], [], _, .nil, _ => .nil
  | k :: ks, v :: vs, d :: ds, .cons h r, hl => .cons h (datF_zip r (by simpa using hl))
  | [], _ :: _, _, _, hl => by cases hl
  | _ :: _, [], _, _, hl => by cases hl
theorem DatL.rev {K : PySem.W.Frag} {H : Hp} : ∀ {vs : List V} {ds : List D}, DatL K H vs ds → DatL K H vs.reverse ds.reverse
  | _, _, .nil => .nil
  | _, _, .cons h r => by
    rw [List.reverse_cons, List.reverse_cons]
    exact (DatL.rev r).append (.cons h .nil)
section
variable {X : Cx} {δ : List Sl} {Δ : DEnds} {e : Expr} {es : List Expr} {p pos pos' : Pos} {x : Str} {c : Nat}
/-- raise C(e, ..) -/
theorem ds_raise (C : XiOk X.prog X.w X.K X.mg X.base c) (hx : x = xNm c) (hc : X.calm = true) (hr : Room 2 X.A) (hg : Gl X x) (h : DA X (e :: es) δ fun ds => ds.length = (xN c).length ∧ Δ.ex c ds.reverse) (hdb : (x == ("__debug__" : Str)) = false := by decide)
    (he : starEach (e :: es) X.env = (false, eval e X.env) :: starEach es X.env := by rfl) (hpl : (backTo pos (starEach es X.env)).any (·.1) = false := by rfl) : DS X (.Raise (some (.Call (.Name x p) (e :: es) [] pos)) none pos') δ Δ := fun H0 σ H Dn W tk s k pins sh I => by
  obtain ⟨fd, ps, F, hb⟩ := C.ex
  refine (ps_raise hc tk (pmk_oex C.k.oex C.k.ini C.k.fn F hr hb .nil passL hg (by rw [hx]; exact C.k.gl) pa_A hdb he hpl)).run pins sh σ H Dn I ?_
  refine h σ H _ s.en fun ds vs H1 ⟨hl, q⟩ k1 d1 => ⟨?_, fun a ha => ?_⟩
  · rw [d1.length, hl]
    match c with
    | 0 => decide
    | 1 => decide
    | _ + 2 =>
      show 2 ≤ 1000
      decide
  · rw [List.append_nil]
    refine ⟨a, vs, rfl, by rw [d1.length, hl], upd_same, fun dx h1 h2 => ⟨rfl, dx, (xN c).zip vs.reverse, upd_same, by rw [upd_ne h2, upd_same], ?_, ?_⟩⟩
    · rw [upd_ne h2] at h1
      exact h1
    · rw [upd_ne h2] at h1
      have e : upd (L2.del (upd (upd (upd H1 a (exo a (xA X.K c) none)) dx (exd dx ((xN c).zip vs.reverse))) a (exo a (xA X.K c) (some dx))) a) dx (.xd ((xN c).zip vs.reverse)) = upd H1 dx (.xd ((xN c).zip vs.reverse)) := by
        funext b
        by_cases hb : b = dx
        · rw [hb, upd_same, upd_same]
        · rw [upd_ne hb, upd_ne hb]
          by_cases hba : b = a
          · rw [hba, del_same, ha]
          · rw [del_ne hba, upd_ne hba, upd_ne hb, upd_ne hba]
      rw [e]
      have kn : Kp X.K H1 (upd H1 dx (.xd ((xN c).zip vs.reverse))) := Kp.new h1
      exact k.ex c ds.reverse dx _ σ _ q ((s.kp.trans k1).trans kn) upd_same (datF_zip (d1.rev.keep kn) (by rw [List.length_reverse, d1.length, hl]))
end
end Fr
end
-- FrIni
section
set_option Elab.async false
set_option linter.all false
set_option maxRecDepth 100000
/-! A class's __init__: the instance in the making. -/
namespace Fr
open PySem PySem.Spec PyProof.Rows L2
section
variable {K : PySem.W.Frag} {H : Hp} {p C dx : Addr} {fs fs' : List (Str × V)}
mutual
/-- plain data do not see an instance's change -/
theorem Dat.ikeep (hp : H p = some (.ins C dx fs)) : ∀ {v : V} {d : D}, Dat K H v d → d.pl = true → Dat K (upd H p (.ins C dx fs')) v d
  | _, _, .non, _ => .non
  | _, _, .bl b, _ => .bl b
  | _, _, .int i, _ => .int i
  | _, _, .str x, _ => .str x
  | _, _, @Dat.tup _ _ a xs ds h l, q => by
    rw [D.pl] at q
    refine .tup ?_ (DatL.ikeep hp l q)
    have ne : ∀ u, H a = some u → (∀ C dx r, u ≠ .ins C dx r) → upd H p (.ins C dx fs') a = some u := fun u e n => by
      rw [upd_ne fun z => by rw [z, hp] at e; exact n _ _ _ (Option.some.inj e).symm]
      exact e
    rcases h with (h | ⟨o, h⟩) | h
    · exact .inl (.inl (ne _ h fun _ _ r z => by cases z))
    · exact .inl (.inr ⟨o, ne _ h fun _ _ r z => by cases z⟩)
    · exact .inr h
  | _, _, @Dat.lst _ _ a xs ds h l, q => by
    rw [D.pl] at q
    refine .lst ?_ (DatL.ikeep hp l q)
    rw [upd_ne fun z => by rw [z, hp] at h; cases h]
    exact h
  | _, _, .dic h n l, q => by rw [D.pl] at q; cases q
  | _, _, .obj h l, q => by rw [D.pl] at q; cases q
  | _, _, .tape h, q => by rw [D.pl] at q; cases q
  | _, _, .fnc _, q => by rw [D.pl] at q; cases q
  | _, _, .exn _ _, q => by rw [D.pl] at q; cases q
  | _, _, .scr _, q => by rw [D.pl] at q; cases q
theorem DatL.ikeep (hp : H p = some (.ins C dx fs)) : ∀ {v : List V} {d : List D}, DatL K H v d → plL d = true → DatL K (upd H p (.ins C dx fs')) v d
  | _, _, .nil, _ => .nil
  | _, _, .cons h l, q => by
    rw [plL, Bool.and_eq_true] at q
    exact .cons (Dat.ikeep hp h q.1) (DatL.ikeep hp l q.2)
end
theorem DatF.ikeep (hp : H p = some (.ins C dx fs)) : ∀ {v : List (Str × V)} {ns : List Str} {d : List D}, DatF K H v ns d → plL d = true → DatF K (upd H p (.ins C dx fs')) v ns d
  | _, _, _, .nil, _ => .nil
  | _, _, _, .cons h l, q => by
    rw [plL, Bool.and_eq_true] at q
    exact .cons (Dat.ikeep hp h q.1) (DatF.ikeep hp l q.2)
theorem DatF.snoc {n : Str} {v : V} {d : D} (h : Dat K H v d) : ∀ {fs : List (Str × V)} {ns : List Str} {ds : List D}, DatF K H fs ns ds → DatF K H (fs ++ [(n, v)]) (ns ++ [n]) (ds ++ [d])
  | _, _, _, .nil => .cons h .nil
  | _, _, _, .cons h' l => .cons h' (DatF.snoc h l)
theorem DatF.len : ∀ {fs : List (Str × V)} {ns : List Str} {ds : List D}, DatF K H fs ns ds → fs.length = ds.length ∧ ns.length = ds.length
  | _, _, _, .nil => ⟨rfl, rfl⟩
  | _, _, _, .cons _ l => (let ⟨a, b⟩ := DatF.len l; ⟨by rw [List.length_cons, List.length_cons, a], by rw [List.length_cons, List.length_cons, b]⟩)
end
/-- the slots beside the instance: of the base, or plain -/
def iOk : Sl → Bool
  | .no => true
  | .b _ => true
  | .v d => d.pl
  | _ => false
theorem fN_nodup (c : Nat) : (fN c).Nodup := match c with
  | 0 => by decide +kernel
  | _ + 1 => (by decide +kernel : (["n", "word", "square", "words", "squares"] : List Str).Nodup)
theorem putF_new {f : Str} {v : V} : ∀ {fs : List (Str × V)}, fs.lookup f = none → putF f v fs = fs ++ [(f, v)]
  | [], _ => rfl
  | (g, x) :: r, h => by
    by_cases e : f = g
    · subst e
      rw [List.lookup_cons_self] at h
      cases h
    · rw [List.lookup_cons, beq_eq_false_iff_ne.mpr e] at h
      show (if g = f then (g, v) :: r else (g, x) :: putF f v r) = _
      rw [if_neg (Ne.symm e), putF_new h]
      rfl
theorem tabs_mut {K : PySem.W.Frag} {H : Hp} {p : Addr} {o u : HO} (t : Tabs K H) (h : H p = some u) (so : Soft u) : Tabs K (upd H p o) := by
  obtain ⟨nt, nc⟩ := so
  obtain ⟨t1, ps, e1, e2, e3⟩ := t
  have ne : ∀ b w, H b = some w → w ≠ u → upd H p o b = some w := fun b w e n => by
    rw [upd_ne fun z => by rw [z, h] at e; exact n (Option.some.inj e).symm]
    exact e
  refine ⟨fun P hP => ?_, ps, ne _ _ e1 fun z => nt ps z.symm, e2, fun pos cv hc => ?_⟩
  · obtain ⟨qs, e, r⟩ := t1 P hP
    exact ⟨qs, ne _ _ e fun z => nt qs z.symm, r⟩
  · obtain ⟨c, z1, z2⟩ := e3 pos cv hc
    exact ⟨c, z1, ne _ _ z2 fun z => nc c lamQ z.symm⟩
theorem take_more {α : Type} {l : List α} {j : Nat} {e : α} (h : l[j]? = some e) : l.take (j + 1) = l.take j ++ [e] := by
  rw [List.take_add_one, h]
  rfl
section
variable {X : Cx} {δ : List Sl} {Δ : DEnds} {o e : Expr} {pos p : Pos} {f x : Str}
/-- self.f = e, the next field -/
theorem ds_self (i : Nat) {a : Addr} {c : Nat} {l : List D} (hN : X.N[i]? = some x) (hv : Vis X.env.scope x) (h0 : δ[i]? = some (.ini a c l)) (hf : (fN c)[l.length]? = some f) (hno : NoAttr X.K (cA X.K c) f) (hcl : Cls X.K (cA X.K c)) (hpl : plL l = true) (hok : ((δ.set i .no).all iOk) = true)
    (h : DE X e δ fun d => d.pl = true ∧ Δ.nx (δ.set i (.ini a c (l ++ [d])))) {q : Pos} (h1 : (x == ("__debug__" : Str)) = false := by decide) (h2 : (x == ("__classdict__" : Str)) = false := by decide)
    (hs2 : swapsWith e (some (.Attribute (.Name x p) f q)) pos.line X.env = pure false := by rfl) : DS X (.Assign [.Attribute (.Name x p) f q] e pos) δ Δ :=
  .of (ps_fld (pe_var hN hv h1 h2) pe_E hs2) fun H0 σ H Dn W tk s k => h σ H _ s.en fun d v H1 ⟨dp, q1⟩ k1 d1 => by
    have s1 := s.keep k1
    obtain ⟨o', e1, dx, fs, e2, hh, hl⟩ := s1.en.2.2 i _ h0
    subst e2
    have hn : H0 a = none := s.ni i a c l h0
    obtain ⟨fl1, fl2⟩ := hl.len
    have hlt : l.length < (fN c).length := (List.getElem?_eq_some_iff.mp hf).1
    have hno2 : fs.lookup f = none := datF_no hl fun hm => by
      rw [List.mem_take_iff_getElem] at hm
      obtain ⟨j, hj, ej⟩ := hm
      obtain ⟨hz, ez⟩ := List.getElem?_eq_some_iff.mp hf
      have := (List.getElem_inj (fN_nodup c)).mp (ej.trans ez.symm)
      omega
    refine ⟨_, e1, a, cA X.K c, dx, fs, rfl, hh, hcl, hno, by rw [fl1]; have : (fN c).length ≤ 5 := (match c with | 0 => by decide | _ + 1 => (by decide : (["n", "word", "square", "words", "squares"] : List Str).length ≤ 5)); omega, ?_⟩
    rw [putF_new hno2]
    have kk : Kp X.K H0 (upd H1 a (.ins (cA X.K c) dx (fs ++ [(f, v)]))) := Kp.mut s1.kp hn hh soft_ins
    have ixl : i < σ.length := by
      rw [s1.en.2.1]
      exact (List.getElem?_eq_some_iff.mp h0).1
    refine k.nx _ σ _ q1 ⟨kk, ⟨tabs_mut s1.en.1 hh soft_ins, by rw [List.length_set]; exact s1.en.2.1, fun j z ez => ?_⟩, fun j d' ez => ?_, fun j l' ez => ?_, fun j a' c' l' ez => ?_⟩
    · rcases get_set ez with ⟨ej, e3⟩ | ⟨ej, e3⟩
      · subst ej e3
        refine ⟨_, e1, dx, _, rfl, upd_same, ?_⟩
        rw [List.length_append, List.length_singleton, take_more hf]
        exact DatF.snoc (Dat.ikeep hh d1 dp) (DatF.ikeep hh hl hpl)
      · obtain ⟨o2, e4, sl⟩ := s1.en.2.2 j z e3
        refine ⟨o2, e4, ?_⟩
        have hz : iOk z = true := List.all_eq_true.mp hok z (List.mem_of_getElem? (i := j) (by rw [set_get ej]; exact e3))
        cases z with
        | no => trivial
        | b d' =>
          obtain ⟨v', e5, d5⟩ := s1.bs j d' e3
          rw [e4] at e5
          cases e5
          exact ⟨v', rfl, d5.keep kk⟩
        | v d' =>
          obtain ⟨v', e5, d5⟩ := sl
          exact ⟨v', e5, Dat.ikeep hh d5 hz⟩
        | ow l' => cases hz
        | ini a' c' l' => cases hz
    · rcases get_set ez with ⟨_, z⟩ | ⟨ej, e3⟩
      · cases z
      · exact s1.bs j d' e3
    · rcases get_set ez with ⟨_, z⟩ | ⟨ej, e3⟩
      · cases z
      · exact s1.nw j l' e3
    · rcases get_set ez with ⟨_, z⟩ | ⟨ej, e3⟩
      · cases z
        exact hn
      · exact s1.ni j a' c' l' e3
end
/-! ### a class by its __init__ -/
def startI (N : List Str) (a : Addr) (c : Nat) (ds : List D) : List Sl := .ini a c [] :: ds.map .b ++ List.replicate (N.length - (ds.length + 1)) .no
theorem startI_ok {K : PySem.W.Frag} {H1 : Hp} {N : List Str} {vs : List V} {ds : List D} {a dx : Addr} {c : Nat} (t : Tabs K H1) (d : DatL K H1 vs ds) (h1 : H1 a = none) (h2 : H1 dx = none) (hne : dx ≠ a) :
    SOk K H1 (upd (upd H1 dx (.own a)) a (.ins (cA K c) dx [])) (L2.start N (.ref a :: vs)) (startI N a c ds) := by
  have k1 : Kp K H1 (upd H1 dx (.own a)) := Kp.new h2
  have h3 : upd H1 dx (.own a) a = none := by
    rw [upd_ne (Ne.symm hne)]
    exact h1
  have kk : Kp K H1 (upd (upd H1 dx (.own a)) a (.ins (cA K c) dx [])) := k1.trans (Kp.new h3)
  have dl := d.length
  have key : ∀ (i : Nat) (s : Sl), (startI N a c ds)[i]? = some s → ∃ o, (L2.start N (.ref a :: vs))[i]? = some o ∧ ((s = .ini a c [] ∧ o = some (.ref a)) ∨ (∃ v d, o = some v ∧ s = .b d ∧ Dat K H1 v d) ∨ s = .no) := fun i s e => by
    unfold startI at e
    unfold L2.start
    cases i with
    | zero =>
      cases e
      exact ⟨_, rfl, .inl ⟨rfl, rfl⟩⟩
    | succ i =>
      rw [List.cons_append, List.getElem?_cons_succ] at e
      rw [List.map_cons, List.cons_append, List.getElem?_cons_succ, List.length_cons]
      rw [List.getElem?_append] at e ⊢
      rw [List.length_map] at e ⊢
      rw [← dl] at e
      by_cases hi : i < vs.length
      · rw [if_pos hi] at e ⊢
        rw [List.getElem?_map] at e ⊢
        cases q : ds[i]? with
        | none => rw [q] at e; cases e
        | some z =>
          rw [q] at e
          obtain ⟨u, e1, e2⟩ := d.get q
          rw [e1]
          cases e
          exact ⟨some u, rfl, .inr (.inl ⟨u, z, rfl, rfl, e2⟩)⟩
      · rw [if_neg hi] at e ⊢
        rw [List.getElem?_replicate] at e ⊢
        split at e
        · rename_i hl
          rw [if_pos hl]
          cases e
          exact ⟨none, rfl, .inr (.inr rfl)⟩
        · cases e
  refine ⟨kk, ⟨kk.tb t, ?_, fun i s e => ?_⟩, fun i z e => ?_, fun i z e => ?_, fun i a' c' z e => ?_⟩
  · unfold startI L2.start
    rw [List.length_append, List.length_append, List.length_map, List.length_cons, List.length_cons, List.length_map, List.length_replicate, List.length_replicate, dl]
  · obtain ⟨o, e1, ⟨es, eo⟩ | ⟨v, z, eo, es, hd⟩ | es⟩ := key i s e
    · subst es eo
      exact ⟨_, e1, dx, [], rfl, upd_same, .nil⟩
    · subst es
      exact ⟨o, e1, v, eo, hd.keep kk⟩
    · subst es
      exact ⟨o, e1, trivial⟩
  · obtain ⟨o, e1, ⟨es, eo⟩ | ⟨v, z', eo, es, hd⟩ | es⟩ := key i _ e
    · cases es
    · cases es
      subst eo
      exact ⟨v, e1, hd⟩
    · cases es
  · obtain ⟨o, e1, ⟨es, eo⟩ | ⟨v, z', eo, es, hd⟩ | es⟩ := key i _ e
    · cases es
    · cases es
    · cases es
  · obtain ⟨o, e1, ⟨es, eo⟩ | ⟨v, z', eo, es, hd⟩ | es⟩ := key i _ e
    · cases es
      exact h1
    · cases es
    · cases es
section
variable {P : Program} {w : World} {K : PySem.W.Frag} {mg : Str → Option Value} {base : Heap} {x qual : Str} {params : Arguments} {body : List Stmt} {scope : Scope} {dvs : List V} {kws : List (Str × V)} {f : Addr} {fd : FuncData} {N ps : List Str} {k c : Nat} {sp : DSp}
theorem ini_ok (F : FunD K x qual params body scope dvs kws f fd) (S : FnScope N ps scope) (len : ∀ ds Φ Ψ, sp ds Φ Ψ → ds.length + 1 = ps.length)
    (hbody : ∀ (cdv : Value) (A : Around) (outer : List PySem.Env) (s : Shared) (H : Hp) (E : XK), PySem.W.codeIn K cdv qual = true → Room k (A.deeper (envOfC qual scope s.heap.objs.size f cdv)) → ∀ (a : Addr) ds Φ Ψ, sp ds Φ Ψ →
      (fd.code = cdv) → DSs (bcx P w K mg base N qual scope f cdv A outer s H E) body (startI N a c ds) { nx := fun δ' => ∃ l, δ'[0]? = some (.ini a c l) ∧ l.length = (fN c).length ∧ Φ (.obj c l), rt := fun _ => False, ex := Ψ }) : FnOk P w K mg base (L2.CX P w) (k + 1) f fd ps (toSpI K c sp) := by
  obtain ⟨oc, od, dV, kV, doc, pm, an, cdv, ct, osl, rfl, lk, hcd, _, _⟩ := F.ex
  refine fn_of lk hcd S (fun vs H Q E ⟨a, dx, us, ds, Φ, Ψ, H1, e, _, _, _, _, d, _, h, _⟩ => by rw [e, List.length_cons, d.length]; exact len ds Φ Ψ h) fun A outer s H vs Q E hr hsp => ?_
  obtain ⟨a, dx, us, ds, Φ, Ψ, H1, rfl, h1, h2, hne, rfl, d, t, hs, k1, k2⟩ := hsp
  refine ⟨tSs _ body, pss_S, hbody cdv A outer s _ E hcd hr a ds Φ Ψ hs rfl H1 _ _ _ (fun cls d _ H => E cls d H) (takes_of rfl rfl rfl rfl) (startI_ok t d h1 h2 hne) ⟨fun δ σ H' ⟨l, e0, hl, p⟩ s' => ?_, fun d v H' p => p.elim, fun _ _ _ p => p.elim, fun _ _ _ p => p.elim, fun c ds dx fs σ H' p kp e hf => k2 c ds dx fs H' p kp e hf⟩⟩
  obtain ⟨o, e1, dx', fs, e2, hh, hl'⟩ := s'.en.2.2 0 _ e0
  refine k1 _ H' p s'.kp (.obj hh ?_)
  rw [hl, List.take_length] at hl'
  exact hl'
end
end Fr
end
-- FrP1
section
set_option Elab.async false
set_option linter.all false
set_option maxRecDepth 100000
/-! The walks: TablePaper. -/
namespace Fr
open PySem PySem.Spec PyProof.Rows L2
-- macros
local macro_rules | `(tactic| walk_at "side") => `(tactic| first | assumption | omega | rfl | decide)
local macro_rules | `(tactic| walk_at "cm") => `(tactic| first | exact .inl ⟨by omega, by omega⟩ | exact .inr ⟨by omega, by omega⟩)
local macro_rules | `(tactic| walk_at "len") => `(tactic| first | decide | (show _ ≤ sizeLine; simp only [List.length_cons, List.length_nil]; decide))
local macro_rules | `(tactic| walk_at "add") => `(tactic| first | refine od_addI ?_ | refine od_addT (by walk_at "side") ?_ | refine od_addL (by walk_at "side") ?_)
local macro_rules | `(tactic| walk_at "mul") => `(tactic| first | refine od_mulI (by walk_at "cm") ?_ | refine od_mulT (by walk_at "side") (by walk_at "side") (by walk_at "side") ?_)
local macro_rules | `(tactic| walk_at "ok") => `(tactic| first | assumption | (simp only [D.ok, okL, Bool.and_true, Bool.true_and]; first | done | assumption | decide))
local macro_rules | `(tactic| walk_at "eq") => `(tactic| first | refine od_eqII ?_ | refine od_eq 20 20 (by walk_at "ok") (by walk_at "ok") (by omega) ?_)
local macro_rules | `(tactic| walk_at "ne") => `(tactic| first | refine od_neII ?_ | refine od_ne 20 20 (by walk_at "ok") (by walk_at "ok") (by omega) ?_)
local macro_rules | `(tactic| walk_at "slice") => `(tactic| first | refine .inl ⟨_, rfl, ?_⟩ | refine .inr ⟨_, rfl, ?_⟩)
local macro_rules | `(tactic| walk_at "vis") => `(tactic| first | exact .inl rfl | exact .inr (.inl rfl) | exact .inr (.inr rfl))
local macro_rules | `(tactic| walk_at "loc") => `(tactic| first | exact .inl rfl | exact .inr rfl)
local macro_rules | `(tactic| walk_at "locf") => `(tactic| first | exact .inr rfl | exact .inl rfl)
-- end macros
/-- the first part of a table paper that is none -/
def tabFault (n f g : D) : Option Str := match n with
  | .int i => if btw 1 3 n = true then if areB f (2 ^ i.toNat) = true then if areB g (2 ^ (i * i).toNat) = true then none else some "g" else some "f" else some "size"
  | _ => some "size"
section
variable {P : Program} {w : World} {K : PySem.W.Frag} {mg : Str → Option Value} {base : Heap}
theorem Tx.cls (T : Tx K mg base) : ∀ c, Cls K (cA K c)
  | 0 => He.cls_ok (T.d.fact 72 (f := .cls "TablePaper") rfl)
  | _ + 1 => He.cls_ok (T.d.fact 77 (f := .cls "SumsPaper") rfl)
def sp_TableI : DSp := fun ds Φ Ψ => ∃ n f g, ds = [n, f, g] ∧ n.ok 9 = true ∧ f.ok 9 = true ∧ g.ok 9 = true ∧ (∀ p, tabFault n f g = some p → Ψ 2 [.int 0, .str p]) ∧ (tabFault n f g = none → Φ (.obj 0 [n, f, g]))
theorem sc_TableI : FnScope ["self", "n", "f", "g"] ["self", "n", "f", "g"] (defScope s_TablePaper_init) := ⟨rfl, rfl, rfl, by decide +kernel, rfl, by decide +kernel, by decide +kernel⟩
theorem ok_TableI (T : Tx K mg base) : ∃ fd, FnOk P w K mg base (L2.CX P w) 3 (He.fAd K ("TablePaper", some "__init__")) fd ["self", "n", "f", "g"] (toSpI K 0 sp_TableI) ∧ Binds K fd ["self", "n", "f", "g"] [] ∧
    FunD K "__init__" "TablePaper.__init__" (defArgs s_TablePaper_init) (defBody s_TablePaper_init) (defScope s_TablePaper_init) [] [] (He.fAd K ("TablePaper", some "__init__")) fd := by
  obtain ⟨fd, F⟩ := T.d.def_ 54 (d := d_TablePaper_init) rfl
  have sc := sc_TableI
  refine ⟨fd, ini_ok F sc (fun ds Φ Ψ ⟨_, _, _, h, _⟩ => by rw [h] <;> rfl) fun cdv A outer s H E hcd hr a ds Φ Ψ h _ => ?_, F.bindsN fun _ _ _ _ _ _ us hl => match us, hl with | [_, _, _, _], _ => rfl, F⟩
  obtain ⟨n, f, g, rfl, hn, hf, hg, hΨ, hΦ⟩ := h
  have X2 := xi2 (P := P) (w := w) T
  have raise : ∀ (δ : List Sl) (p : Str) (Δ : DEnds) (j1 j2 : Nat) (p1 p2 q1 q2 q3 : Pos), tabFault n f g = some p → Δ.ex = Ψ → DSs (bcx P w K mg base ["self", "n", "f", "g"] "TablePaper.__init__" (defScope s_TablePaper_init) (He.fAd K ("TablePaper", some "__init__")) cdv A outer s H E)
      [.Raise (some (.Call (.Name "InvalidPaper" p1) [.Constant (.str p) j1 q1, .Constant (.int 0) j2 q2] [] q3)) none p2] δ Δ := fun δ p Δ j1 j2 p1 p2 q1 q2 q3 hp hx => by
    refine dss_one (ds_raise X2 rfl rfl hr rfl ?_)
    refine da_cons (de_str ?_)
    refine da_cons (de_int ?_)
    refine da_nil ⟨rfl, ?_⟩
    rw [hx]
    exact hΨ p hp
  -- size
  refine dss_then (fun δ' => δ' = startI ["self", "n", "f", "g"] a 0 [n, f, g] ∧ ∃ i, n = .int i ∧ 1 ≤ i ∧ i ≤ 3) ?_ fun δ' ⟨e, i, en, i1, i3⟩ => ?_
  · refine ds_if ?_
    refine dt_W ?_
    refine dw_or ?_
    refine dt_not ?_
    refine dt_val (by intro _; rfl) ?_
    refine de_isT rfl (b_isinstance T) (by decide +kernel) rfl (b_int T) (by decide +kernel) kit_int ?_
    refine de_var 1 rfl (.inl rfl) rfl ?_
    refine ⟨D.ok_obj hn, isBl_of ⟨fun hb => ?_, fun hb => ?_⟩⟩
    · refine ⟨fun _ => ?_, fun z => (by cases z)⟩
      refine raise _ _ _ _ _ _ _ _ _ _ ?_ rfl
      cases n <;> first | rfl | cases hb
    refine dw_or ?_
    refine dt_val (by intro _; rfl) ?_
    refine de_isT rfl (b_isinstance T) (by decide +kernel) rfl (b_bool T) (by decide +kernel) kit_bool ?_
    refine de_var 1 rfl (.inl rfl) rfl ?_
    refine ⟨D.ok_obj hn, isBl_of ⟨fun hb2 => ?_, fun hb2 => ?_⟩⟩
    · refine ⟨fun _ => ?_, fun z => (by cases z)⟩
      refine raise _ _ _ _ _ _ _ _ _ _ ?_ rfl
      cases n <;> first | rfl | cases hb2
    obtain ⟨i, rfl⟩ := int_of (y := n) (by simpa using hb) hb2
    have last : ∀ b : Bool, (b = (decide (1 ≤ i) && decide (i ≤ 3))) → ((!b) = true → tabFault (.int i) f g = some "size") ∧ ((!b) = false → 1 ≤ i ∧ i ≤ 3) := fun b eb => by
      subst eb
      constructor
      · intro h
        have h : (decide (1 ≤ i) && decide (i ≤ 3)) = false := by rw [Bool.not_eq_true'] at h; exact h
        show (if (decide (1 ≤ i) && decide (i ≤ 3)) = true then _ else _) = _
        rw [h]
        rfl
      · intro h
        have h : (decide (1 ≤ i) && decide (i ≤ 3)) = true := by rw [Bool.not_eq_false'] at h; exact h
        rw [Bool.and_eq_true, decide_eq_true_iff, decide_eq_true_iff] at h
        exact h
    refine dw_one_or ?_
    refine dt_not ?_
    refine dt_le3 ?_
    refine de_int ?_
    refine de_var 1 rfl (.inl rfl) rfl ?_
    refine ⟨_, _, rfl, rfl, fun hb => ?_, fun hb => ?_⟩
    · refine de_int ?_
      refine ⟨_, rfl, fun h => ?_, fun h => ?_⟩
      · exact raise _ _ _ _ _ _ _ _ _ _ ((last _ (by rw [decide_eq_true hb, Bool.true_and])).1 h) rfl
      · exact dss_nil ⟨rfl, i, rfl, (last (decide (i ≤ 3)) (by rw [decide_eq_true hb, Bool.true_and])).2 h⟩
    · refine ⟨fun h => ?_, fun z => (by cases z)⟩
      exact raise _ _ _ _ _ _ _ _ _ _ ((last false (by rw [decide_eq_false hb, Bool.false_and])).1 rfl) rfl
  subst e en
  have hb3 : btw 1 3 (.int i) = true := by
    show (decide (1 ≤ i) && decide (i ≤ 3)) = true
    rw [decide_eq_true i1, decide_eq_true i3]
    rfl
  have hii : (i * i).toNat ≤ 9 := by
    have : i = 1 ∨ i = 2 ∨ i = 3 := by omega
    rcases this with rfl | rfl | rfl <;> decide
  have hii0 : 0 ≤ i * i := Int.mul_nonneg (by omega) (by omega)
  -- f
  refine dss_then (fun δ' => δ' = startI ["self", "n", "f", "g"] a 0 [.int i, f, g] ∧ areB f (2 ^ i.toNat) = true) ?_ fun δ' ⟨e, af⟩ => ?_
  · refine ds_if ?_
    refine dt_not ?_
    refine dt_val (by intro _; rfl) ?_
    refine de_call (ok__are_bits T) hr rfl ?_
    refine da_cons ?_
    refine de_var 2 rfl (.inl rfl) rfl ?_
    refine da_cons ?_
    refine de_op op_shl ?_
    refine de_int ?_
    refine de_var 1 rfl (.inl rfl) rfl ?_
    refine od_shlI ⟨by omega, by omega, by decide⟩ ?_
    refine da_nil ?_
    rw [Int.one_mul]
    refine ⟨f, _, rfl, hf, isBl_of ⟨fun hb => ?_, fun hb => ?_⟩⟩
    · refine raise _ _ _ _ _ _ _ _ _ _ ?_ rfl
      have hb : areB f (2 ^ i.toNat) = false := by simpa using hb
      show (if btw 1 3 (.int i) = true then if areB f (2 ^ i.toNat) = true then _ else _ else _) = _
      rw [if_pos hb3, if_neg (by rw [hb]; exact Bool.false_ne_true)]
    · exact dss_nil ⟨rfl, by simpa using hb⟩
  subst e
  -- g
  refine dss_then (fun δ' => δ' = startI ["self", "n", "f", "g"] a 0 [.int i, f, g] ∧ areB g (2 ^ (i * i).toNat) = true) ?_ fun δ' ⟨e, ag⟩ => ?_
  · refine ds_if ?_
    refine dt_not ?_
    refine dt_val (by intro _; rfl) ?_
    refine de_call (ok__are_bits T) hr rfl ?_
    refine da_cons ?_
    refine de_var 3 rfl (.inl rfl) rfl ?_
    refine da_cons ?_
    refine de_op op_shl ?_
    refine de_int ?_
    refine de_op op_mulU ?_
    refine de_var 1 rfl (.inl rfl) rfl ?_
    refine de_var 1 rfl (.inl rfl) rfl ?_
    refine od_mulI (.inl ⟨by omega, by omega⟩) ?_
    refine od_shlI ⟨hii0, by omega, by decide⟩ ?_
    refine da_nil ?_
    rw [Int.one_mul]
    refine ⟨g, _, rfl, hg, isBl_of ⟨fun hb => ?_, fun hb => ?_⟩⟩
    · refine raise _ _ _ _ _ _ _ _ _ _ ?_ rfl
      have hb : areB g (2 ^ (i * i).toNat) = false := by simpa using hb
      show (if btw 1 3 (.int i) = true then if areB f (2 ^ i.toNat) = true then if areB g (2 ^ (i * i).toNat) = true then _ else _ else _ else _) = _
      rw [if_pos hb3, if_pos af, if_neg (by rw [hb]; exact Bool.false_ne_true)]
    · exact dss_nil ⟨rfl, by simpa using hb⟩
  subst e
  have hnone : tabFault (.int i) f g = none := by
    show (if btw 1 3 (.int i) = true then if areB f (2 ^ i.toNat) = true then if areB g (2 ^ (i * i).toNat) = true then _ else _ else _ else _) = _
    rw [if_pos hb3, if_pos af, if_pos ag]
  have pf := D.ok_pl hf
  have pg := D.ok_pl hg
  have pi : (D.int i).pl = true := by rw [D.pl]
  refine dss_cons (ds_self 0 rfl (.inl rfl) (a := a) (c := 0) (l := []) rfl rfl (He.noat_ok (T.d.fact 82 (f := .noat "TablePaper" "n") rfl)) (T.cls 0) (by rw [plL]) rfl ?_)
  refine de_var 1 rfl (.inl rfl) rfl ⟨pi, ?_⟩
  refine dss_cons (ds_self 0 rfl (.inl rfl) (a := a) (c := 0) (l := [.int i]) rfl rfl (He.noat_ok (T.d.fact 83 (f := .noat "TablePaper" "f") rfl)) (T.cls 0) (by rw [plL, plL, pi]; rfl) rfl ?_)
  refine de_var 2 rfl (.inl rfl) rfl ⟨pf, ?_⟩
  refine dss_one (ds_self 0 rfl (.inl rfl) (a := a) (c := 0) (l := [.int i, f]) rfl rfl (He.noat_ok (T.d.fact 84 (f := .noat "TablePaper" "g") rfl)) (T.cls 0) (by rw [plL, plL, plL, pi, pf]; rfl) rfl ?_)
  refine de_var 3 rfl (.inl rfl) rfl ⟨pg, ?_⟩
  exact ⟨_, rfl, rfl, hΦ hnone⟩
end
end Fr
end
-- FrP2
section
set_option Elab.async false
set_option linter.all false
set_option maxRecDepth 100000
/-! The walks: letters of the papers. -/
namespace Fr
open PySem PySem.Spec PyProof.Rows L2
-- macros
local macro_rules | `(tactic| walk_at "side") => `(tactic| first | assumption | omega | rfl | decide)
local macro_rules | `(tactic| walk_at "cm") => `(tactic| first | exact .inl ⟨by omega, by omega⟩ | exact .inr ⟨by omega, by omega⟩)
local macro_rules | `(tactic| walk_at "len") => `(tactic| first | decide | (show _ ≤ sizeLine; simp only [List.length_cons, List.length_nil]; decide))
local macro_rules | `(tactic| walk_at "add") => `(tactic| first | refine od_addI ?_ | refine od_addT (by walk_at "side") ?_ | refine od_addL (by walk_at "side") ?_)
local macro_rules | `(tactic| walk_at "mul") => `(tactic| first | refine od_mulI (by walk_at "cm") ?_ | refine od_mulT (by walk_at "side") (by walk_at "side") (by walk_at "side") ?_)
local macro_rules | `(tactic| walk_at "ok") => `(tactic| first | assumption | (simp only [D.ok, okL, Bool.and_true, Bool.true_and]; first | done | assumption | decide))
local macro_rules | `(tactic| walk_at "eq") => `(tactic| first | refine od_eqII ?_ | refine od_eq 20 20 (by walk_at "ok") (by walk_at "ok") (by omega) ?_)
local macro_rules | `(tactic| walk_at "ne") => `(tactic| first | refine od_neII ?_ | refine od_ne 20 20 (by walk_at "ok") (by walk_at "ok") (by omega) ?_)
local macro_rules | `(tactic| walk_at "slice") => `(tactic| first | refine .inl ⟨_, rfl, ?_⟩ | refine .inr ⟨_, rfl, ?_⟩)
local macro_rules | `(tactic| walk_at "vis") => `(tactic| first | exact .inl rfl | exact .inr (.inl rfl) | exact .inr (.inr rfl))
local macro_rules | `(tactic| walk_at "loc") => `(tactic| first | exact .inl rfl | exact .inr rfl)
local macro_rules | `(tactic| walk_at "locf") => `(tactic| first | exact .inr rfl | exact .inl rfl)
-- end macros
/-! ### what is said -/
def TObj (n : Nat) (f g : List Int) : D := .obj 0 [.int n, wd f, wd g]
def SObj (n : Nat) (w : List Int) (q : List (List Int)) (ws : List (List Int)) (qs : List (List (List Int))) : D := .obj 1 [.int n, wd w, sq q, .tup (ws.map wd), .tup (qs.map sq)]
theorem isBits_wd {l : List D} (h : isBits (.tup l) = true) : ∃ m : List Int, l = m.map .int ∧ bitsI m := by
  have h : l.all isBit = true := h
  induction l with
  | nil => exact ⟨[], rfl, fun x hx => by cases hx⟩
  | cons d l ih =>
    rw [List.all_cons, Bool.and_eq_true] at h
    obtain ⟨m, e, hm⟩ := ih h.2 h.2
    cases d with
    | int i =>
      have hi : (decide (0 ≤ i) && decide (i ≤ 1)) = true := h.1
      rw [Bool.and_eq_true, decide_eq_true_iff, decide_eq_true_iff] at hi
      refine ⟨i :: m, by rw [e]; rfl, fun x hx => ?_⟩
      rcases List.mem_cons.mp hx with z | z
      · rw [z]; omega
      · exact hm x z
    | _ => exact absurd h.1 (by simp [isBit, btw])
theorem isWord_wd {d : D} {n : Nat} (h : isWord d n = true) : ∃ l, d = wd l ∧ WdI n l := by
  unfold isWord at h
  rw [Bool.and_eq_true] at h
  obtain ⟨l, rfl⟩ := isSome_tup h.1
  obtain ⟨m, e, hm⟩ := isBits_wd (Bool.and_eq_true_iff.mp h.1).1
  subst e
  have h2 : (((m.map D.int).length : Nat) : Int) = n := by simpa [lenD] using h.2
  rw [List.length_map] at h2
  exact ⟨m, rfl, by omega, hm⟩
theorem isMat_sq {d : D} {n : Nat} (h : isMat d n = true) : ∃ L, d = sq L ∧ SqI n L := by
  unfold isMat at h
  rw [Bool.and_eq_true, Bool.and_eq_true] at h
  obtain ⟨h1, h2, h3⟩ := h
  obtain ⟨l, rfl⟩ := tup_of h1
  have h2 : ((l.length : Nat) : Int) = n := by simpa [lenD] using h2
  have h3 : l.all (fun r => isWord r n) = true := h3
  have key : ∀ l : List D, l.all (fun r => isWord r n) = true → ∃ L : List (List Int), l = L.map wd ∧ ∀ r ∈ L, WdI n r := by
    intro l
    induction l with
    | nil => exact fun _ => ⟨[], rfl, fun r hr => by cases hr⟩
    | cons d l ih =>
      intro h
      rw [List.all_cons, Bool.and_eq_true] at h
      obtain ⟨L, e, hL⟩ := ih h.2
      obtain ⟨m, rfl, hm⟩ := isWord_wd h.1
      refine ⟨m :: L, by rw [e]; rfl, fun r hr => ?_⟩
      rcases List.mem_cons.mp hr with z | z
      · rw [z]; exact hm
      · exact hL r z
  obtain ⟨L, e, hL⟩ := key l h3
  subst e
  rw [List.length_map] at h2
  exact ⟨L, rfl, by omega, hL⟩
theorem wd_inj {l m : List Int} (h : wd l = wd m) : l = m := by
  have h : l.map D.int = m.map D.int := D.tup.inj h
  exact (List.map_inj_right fun a b e => D.int.inj e).mp h
theorem sq_inj {l m : List (List Int)} (h : sq l = sq m) : l = m := by
  have h : l.map wd = m.map wd := D.tup.inj h
  exact (List.map_inj_right fun a b e => wd_inj e).mp h
theorem xor01 {x : Int} (hx : x = 0 ∨ x = 1) (b : Bool) : Builtin.bitXor x (if b then 1 else 0) = (x + if b then 1 else 0) % 2 := by
  rcases hx with rfl | rfl <;> cases b <;> decide +kernel
theorem par_append {r s R S : List Int} (h : r.length = s.length) : par (r ++ R) (s ++ S) = (par r s + par R S) % 2 := by
  unfold par
  rw [List.zip_append h, List.map_append, List.sum_append]
  omega
theorem sqpar_flat {n : Nat} : ∀ {L M : List (List Int)}, (∀ r ∈ L, r.length = n) → (∀ r ∈ M, r.length = n) → L.length = M.length → sqpar L M = par L.flatten M.flatten
  | [], [], _, _, _ => by decide
  | r :: L, s :: M, h1, h2, h3 => by
    have ih := sqpar_flat (L := L) (M := M) (fun x hx => h1 x (List.mem_cons_of_mem _ hx)) (fun x hx => h2 x (List.mem_cons_of_mem _ hx)) (by simpa using h3)
    rw [List.flatten_cons, List.flatten_cons, par_append (by rw [h1 r List.mem_cons_self, h2 s List.mem_cons_self]), ← ih]
    unfold sqpar
    rw [List.zip_cons_cons, List.map_cons, List.sum_cons]
    show (par r s + _) % 2 = _
    omega
  | [], _ :: _, _, _, h => by cases h
  | _ :: _, [], _, _, h => by cases h
section
variable {P : Program} {w : World} {K : PySem.W.Frag} {mg : Str → Option Value} {base : Heap}
theorem no_f (T : Tx K mg base) : NoAttr K (cA K 0) "f" := He.noat_ok (T.d.fact 83 (f := .noat "TablePaper" "f") rfl)
theorem no_g (T : Tx K mg base) : NoAttr K (cA K 0) "g" := He.noat_ok (T.d.fact 84 (f := .noat "TablePaper" "g") rfl)
theorem no_n0 (T : Tx K mg base) : NoAttr K (cA K 0) "n" := He.noat_ok (T.d.fact 82 (f := .noat "TablePaper" "n") rfl)
theorem no_n1 (T : Tx K mg base) : NoAttr K (cA K 1) "n" := He.noat_ok (T.d.fact 85 (f := .noat "SumsPaper" "n") rfl)
theorem no_word (T : Tx K mg base) : NoAttr K (cA K 1) "word" := He.noat_ok (T.d.fact 86 (f := .noat "SumsPaper" "word") rfl)
theorem no_square (T : Tx K mg base) : NoAttr K (cA K 1) "square" := He.noat_ok (T.d.fact 87 (f := .noat "SumsPaper" "square") rfl)
theorem no_words (T : Tx K mg base) : NoAttr K (cA K 1) "words" := He.noat_ok (T.d.fact 88 (f := .noat "SumsPaper" "words") rfl)
theorem no_squares (T : Tx K mg base) : NoAttr K (cA K 1) "squares" := He.noat_ok (T.d.fact 89 (f := .noat "SumsPaper" "squares") rfl)
/-- a letter's promise: of no word a refusal -/
def sp_tlf : DSp := fun ds Φ Ψ => ∃ n f g d, ds = [TObj n f g, d] ∧ n ≤ 12 ∧ 1 ≤ n ∧ d.ok 9 = true ∧ f.length = 2 ^ n ∧ (isWord d n = false → Ψ 0 [d]) ∧ ∀ l, d = wd l → WdI n l → Φ (.int (letF f l))
theorem mt_tlf (T : Tx K mg base) : Met P w K mg base 8 0 "letter_f" sp_tlf := by
  obtain ⟨fd, F⟩ := T.d.def_ 56 (d := d_TablePaper_lf) rfl
  have sc : FnScope ["self", "word"] ["self", "word"] (defScope s_TablePaper_lf) := ⟨rfl, rfl, rfl, by decide +kernel, rfl, by decide +kernel, by decide +kernel⟩
  refine ⟨_, fd, ["self", "word"], T.cls 0, He.meth_ok (T.d.fact 75 (f := .meth "TablePaper" "letter_f") rfl), fn_ok F sc (fun ds Φ Ψ ⟨_, _, _, _, h, _⟩ => by rw [h] <;> rfl) fun cdv A outer s H E hcd _ hr ds Φ Ψ h => ?_, F.bindsN fun _ _ _ _ _ _ us hl => match us, hl with | [_, _], _ => rfl, by decide +kernel⟩
  obtain ⟨n, f, g, d, rfl, hn, hn1, hd, hf, hΨ, hΦ⟩ := h
  refine dss_cons (ds_if ?_)
  refine dt_not ?_
  refine dt_val (by intro _; rfl) ?_
  refine de_call (ok_is_word T) hr rfl ?_
  refine da_cons ?_
  refine de_var 1 rfl (.inl rfl) rfl ?_
  refine da_cons ?_
  refine de_fld T.cls ?_
  refine de_var 0 rfl (.inl rfl) rfl ?_
  refine ⟨0, _, .int n, rfl, no_n0 T, rfl, ?_⟩
  refine da_nil ?_
  refine ⟨d, n, rfl, hd, isBl_of ⟨fun hb => ?_, fun hb => ?_⟩⟩
  · refine dss_one (ds_raise (xi0 T) rfl rfl (hr.mono (by decide)) rfl ?_)
    refine da_cons ?_
    refine de_var 1 rfl (.inl rfl) rfl ?_
    refine da_nil ⟨rfl, hΨ ?_⟩
    rw [Bool.not_eq_true'] at hb
    exact hb
  · rw [Bool.not_eq_false'] at hb
    obtain ⟨l, rfl, hl⟩ := isWord_wd hb
    refine dss_nil ?_
    refine dss_one (ds_ret ?_)
    refine de_ix ?_
    refine de_fld T.cls ?_
    refine de_var 0 rfl (.inl rfl) rfl ?_
    refine ⟨0, _, wd f, rfl, no_f T, rfl, ?_⟩
    refine de_call (ok_number_of T) hr rfl ?_
    refine da_cons ?_
    refine de_var 1 rfl (.inl rfl) rfl ?_
    refine da_nil ?_
    exact ⟨l, rfl, hl.bits, by rw [hl.len]; exact hn1, by rw [hl.len]; exact hn, _, _, _, .inl rfl, rfl, let_at hf hl, hΦ l rfl hl⟩
def sp_tlg : DSp := fun ds Φ Ψ => ∃ n f g d, ds = [TObj n f g, d] ∧ n ≤ 12 ∧ 1 ≤ n ∧ d.ok 9 = true ∧ g.length = 2 ^ (n * n) ∧ (isMat d n = false → Ψ 1 [d]) ∧ ∀ L, d = sq L → SqI n L → Φ (.int (letF g L.flatten))
theorem mt_tlg (T : Tx K mg base) : Met P w K mg base 10 0 "letter_g" sp_tlg := by
  obtain ⟨fd, F⟩ := T.d.def_ 57 (d := d_TablePaper_lg) rfl
  have sc : FnScope ["self", "square", "number", "bit"] ["self", "square"] (defScope s_TablePaper_lg) := ⟨rfl, rfl, rfl, by decide +kernel, rfl, by decide +kernel, by decide +kernel⟩
  refine ⟨_, fd, ["self", "square"], T.cls 0, He.meth_ok (T.d.fact 76 (f := .meth "TablePaper" "letter_g") rfl), fn_ok F sc (fun ds Φ Ψ ⟨_, _, _, _, h, _⟩ => by rw [h] <;> rfl) fun cdv A outer s H E hcd _ hr ds Φ Ψ h => ?_, F.bindsN fun _ _ _ _ _ _ us hl => match us, hl with | [_, _], _ => rfl, by decide +kernel⟩
  obtain ⟨n, f, g, d, rfl, hn, hn1, hd, hg, hΨ, hΦ⟩ := h
  refine dss_cons (ds_if ?_)
  refine dt_not ?_
  refine dt_val (by intro _; rfl) ?_
  refine de_call (ok_is_square T) hr rfl ?_
  refine da_cons ?_
  refine de_var 1 rfl (.inl rfl) rfl ?_
  refine da_cons ?_
  refine de_fld T.cls ?_
  refine de_var 0 rfl (.inl rfl) rfl ?_
  refine ⟨0, _, .int n, rfl, no_n0 T, rfl, ?_⟩
  refine da_nil ?_
  refine ⟨d, n, rfl, hd, isBl_of ⟨fun hb => ?_, fun hb => ?_⟩⟩
  · refine dss_one (ds_raise (xi1 T) rfl rfl (hr.mono (by decide)) rfl ?_)
    refine da_cons ?_
    refine de_var 1 rfl (.inl rfl) rfl ?_
    refine da_nil ⟨rfl, hΨ ?_⟩
    rw [Bool.not_eq_true'] at hb
    exact hb
  · rw [Bool.not_eq_false'] at hb
    obtain ⟨L, rfl, hL⟩ := isMat_sq hb
    have hnn : n * n ≤ 12 * 12 := Nat.mul_le_mul hn hn
    refine dss_nil ?_
    refine dss_cons (ds_set 2 sc.nd rfl (.inl rfl) ?_)
    refine de_int ?_
    refine dss_cons (ds_forT 3 rfl (passes_of rfl) sc.nd rfl (.inl rfl) ?_)
    refine de_call (ok_rows_together T) (hr.mono (by decide)) rfl ?_
    refine da_cons ?_
    refine de_var 1 rfl (.inl rfl) rfl ?_
    refine da_nil ?_
    refine ⟨L, rfl, by rw [hL.flat.len]; omega, _, rfl, fun j δ' => ∃ z, δ' = [.v (TObj n f g), .v (sq L), .v (.int (bnum (L.flatten.take j))), z] ∧ vO [z] = true, fun j δ' ⟨z, e, hz⟩ => by rw [e]; exact hz, ⟨.no, rfl, rfl⟩, fun j y δ' hy ⟨z, e, hz⟩ => ?_, fun δ' ⟨z, e, hz⟩ => ?_⟩
    · subst e
      obtain ⟨x, hx, rfl⟩ := map_get hy
      refine dss_one (ds_set 2 sc.nd rfl (.inl rfl) ?_)
      refine de_op op_addU ?_
      refine de_op op_mulU ?_
      refine de_int ?_
      refine de_var 2 rfl (.inl rfl) rfl ?_
      walk_at "mul"
      refine de_var 3 rfl (.inl rfl) rfl ?_
      walk_at "add"
      exact ⟨.v (.int x), by rw [bnum_step hx]; rfl, rfl⟩
    · subst e
      refine dss_one (ds_ret ?_)
      refine de_ix ?_
      refine de_fld T.cls ?_
      refine de_var 0 rfl (.inl rfl) rfl ?_
      refine ⟨0, _, wd g, rfl, no_g T, rfl, ?_⟩
      refine de_var 2 rfl (.inl rfl) rfl ?_
      rw [List.length_map, List.take_length]
      exact ⟨_, _, _, .inl rfl, rfl, let_at hg hL.flat, hΦ L rfl hL⟩
def sp_slf : DSp := fun ds Φ Ψ => ∃ n w q ws qs d, ds = [SObj n w q ws qs, d] ∧ n ≤ 12 ∧ 1 ≤ n ∧ d.ok 9 = true ∧ WdI n w ∧ (isWord d n = false → Ψ 0 [d]) ∧ ∀ l, d = wd l → WdI n l → Φ (.int (sumF w ws l))
theorem mt_slf (T : Tx K mg base) : Met P w K mg base 9 1 "letter_f" sp_slf := by
  obtain ⟨fd, F⟩ := T.d.def_ 60 (d := d_SumsPaper_lf) rfl
  have sc : FnScope ["self", "word"] ["self", "word"] (defScope s_SumsPaper_lf) := ⟨rfl, rfl, rfl, by decide +kernel, rfl, by decide +kernel, by decide +kernel⟩
  refine ⟨_, fd, ["self", "word"], T.cls 1, He.meth_ok (T.d.fact 80 (f := .meth "SumsPaper" "letter_f") rfl), fn_ok F sc (fun ds Φ Ψ ⟨_, _, _, _, _, _, h, _⟩ => by rw [h] <;> rfl) fun cdv A outer s H E hcd _ hr ds Φ Ψ h => ?_, F.bindsN fun _ _ _ _ _ _ us hl => match us, hl with | [_, _], _ => rfl, by decide +kernel⟩
  obtain ⟨n, w', q, ws, qs, d, rfl, hn, hn1, hd, hw, hΨ, hΦ⟩ := h
  refine dss_cons (ds_if ?_)
  refine dt_not ?_
  refine dt_val (by intro _; rfl) ?_
  refine de_call (ok_is_word T) (hr.mono (by decide)) rfl ?_
  refine da_cons ?_
  refine de_var 1 rfl (.inl rfl) rfl ?_
  refine da_cons ?_
  refine de_fld T.cls ?_
  refine de_var 0 rfl (.inl rfl) rfl ?_
  refine ⟨1, _, .int n, rfl, no_n1 T, rfl, ?_⟩
  refine da_nil ?_
  refine ⟨d, n, rfl, hd, isBl_of ⟨fun hb => ?_, fun hb => ?_⟩⟩
  · refine dss_one (ds_raise (xi0 T) rfl rfl (hr.mono (by decide)) rfl ?_)
    refine da_cons ?_
    refine de_var 1 rfl (.inl rfl) rfl ?_
    refine da_nil ⟨rfl, hΨ ?_⟩
    rw [Bool.not_eq_true'] at hb
    exact hb
  · rw [Bool.not_eq_false'] at hb
    obtain ⟨l, rfl, hl⟩ := isWord_wd hb
    refine dss_nil ?_
    refine dss_one (ds_ret ?_)
    refine de_op op_xor ?_
    refine de_call (ok_product_of T) hr rfl ?_
    refine da_cons ?_
    refine de_fld T.cls ?_
    refine de_var 0 rfl (.inl rfl) rfl ?_
    refine ⟨1, _, wd w', rfl, no_word T, rfl, ?_⟩
    refine da_cons ?_
    refine de_var 1 rfl (.inl rfl) rfl ?_
    refine da_nil ?_
    refine ⟨w', l, rfl, hw.bits, hl.bits, by rw [hw.len]; exact hn1, by rw [hw.len]; exact hn, by rw [hw.len, hl.len], ?_⟩
    refine de_callTy call_int1 rfl (b_int T) (by decide +kernel) ?_
    refine da_cons ?_
    refine de_cmpO (op_inU hr) rfl ?_
    refine de_var 1 rfl (.inl rfl) rfl ?_
    refine de_fld T.cls ?_
    refine de_var 0 rfl (.inl rfl) rfl ?_
    refine ⟨1, _, .tup (ws.map wd), rfl, no_words T, rfl, ?_⟩
    refine od_inT 9 9 (ok_wd l 8) (wds_ok ws 7) (by omega) ?_
    rw [any_wd]
    refine da_nil ?_
    refine cd_intB ?_
    refine od_xorI ?_
    rw [xor01 (par01 w' l)]
    exact hΦ l rfl hl
def sp_slg : DSp := fun ds Φ Ψ => ∃ n w q ws qs d, ds = [SObj n w q ws qs, d] ∧ n ≤ 12 ∧ 1 ≤ n ∧ d.ok 9 = true ∧ SqI n q ∧ (isMat d n = false → Ψ 1 [d]) ∧ ∀ L, d = sq L → SqI n L → Φ (.int (sumG q qs L))
theorem mt_slg (T : Tx K mg base) : Met P w K mg base 13 1 "letter_g" sp_slg := by
  obtain ⟨fd, F⟩ := T.d.def_ 61 (d := d_SumsPaper_lg) rfl
  have sc : FnScope ["self", "square"] ["self", "square"] (defScope s_SumsPaper_lg) := ⟨rfl, rfl, rfl, by decide +kernel, rfl, by decide +kernel, by decide +kernel⟩
  refine ⟨_, fd, ["self", "square"], T.cls 1, He.meth_ok (T.d.fact 81 (f := .meth "SumsPaper" "letter_g") rfl), fn_ok F sc (fun ds Φ Ψ ⟨_, _, _, _, _, _, h, _⟩ => by rw [h] <;> rfl) fun cdv A outer s H E hcd _ hr ds Φ Ψ h => ?_, F.bindsN fun _ _ _ _ _ _ us hl => match us, hl with | [_, _], _ => rfl, by decide +kernel⟩
  obtain ⟨n, w', q, ws, qs, d, rfl, hn, hn1, hd, hq, hΨ, hΦ⟩ := h
  refine dss_cons (ds_if ?_)
  refine dt_not ?_
  refine dt_val (by intro _; rfl) ?_
  refine de_call (ok_is_square T) (hr.mono (by decide)) rfl ?_
  refine da_cons ?_
  refine de_var 1 rfl (.inl rfl) rfl ?_
  refine da_cons ?_
  refine de_fld T.cls ?_
  refine de_var 0 rfl (.inl rfl) rfl ?_
  refine ⟨1, _, .int n, rfl, no_n1 T, rfl, ?_⟩
  refine da_nil ?_
  refine ⟨d, n, rfl, hd, isBl_of ⟨fun hb => ?_, fun hb => ?_⟩⟩
  · refine dss_one (ds_raise (xi1 T) rfl rfl (hr.mono (by decide)) rfl ?_)
    refine da_cons ?_
    refine de_var 1 rfl (.inl rfl) rfl ?_
    refine da_nil ⟨rfl, hΨ ?_⟩
    rw [Bool.not_eq_true'] at hb
    exact hb
  · rw [Bool.not_eq_false'] at hb
    obtain ⟨L, rfl, hL⟩ := isMat_sq hb
    refine dss_nil ?_
    refine dss_one (ds_ret ?_)
    refine de_op op_xor ?_
    refine de_call (ok_square_product T) hr rfl ?_
    refine da_cons ?_
    refine de_fld T.cls ?_
    refine de_var 0 rfl (.inl rfl) rfl ?_
    refine ⟨1, _, sq q, rfl, no_square T, rfl, ?_⟩
    refine da_cons ?_
    refine de_var 1 rfl (.inl rfl) rfl ?_
    refine da_nil ?_
    refine ⟨n, q, L, rfl, hq, hL, hn1, hn, ?_⟩
    refine de_callTy call_int1 rfl (b_int T) (by decide +kernel) ?_
    refine da_cons ?_
    refine de_cmpO (op_inU hr) rfl ?_
    refine de_var 1 rfl (.inl rfl) rfl ?_
    refine de_fld T.cls ?_
    refine de_var 0 rfl (.inl rfl) rfl ?_
    refine ⟨1, _, .tup (qs.map sq), rfl, no_squares T, rfl, ?_⟩
    refine od_inT 9 9 (ok_sq L 7) (sqs_ok qs 6) (by omega) ?_
    rw [any_sq]
    refine da_nil ?_
    refine cd_intB ?_
    refine od_xorI ?_
    rw [sqpar_flat (n := n) (fun r hr => (hq.rows r hr).len) (fun r hr => (hL.rows r hr).len) (by rw [hq.len, hL.len]), xor01 (par01 _ _)]
    exact hΦ L rfl hL
end
end Fr
end
-- FrEq
section
set_option Elab.async false
set_option linter.all false
set_option maxRecDepth 100000
/-! Own == and !=; isinstance of an own class. -/
namespace Fr
open PySem PySem.Spec PyProof.Rows L2
open PySem.W (Looks)
/-- the type of a datum -/
def tyO (K : PySem.W.Frag) : D → Value
  | .obj c _ => .ref (cA K c)
  | .fnc _ _ => .none
  | .exn _ _ _ _ => .none
  | .scr _ => .none
  | d => .type (tyD d)
section
variable {P : Program} {w : World} {K : PySem.W.Frag} {mg : Str → Option Value} {base : Heap}
theorem ins_of (h : insB K C = true) : PySem.W.findIn K (.ref C) "__class__" = some (some (.builtin "object.__class__")) ∧ PySem.W.mroIn K C (.type "object") = some true ∧ PySem.W.findIn K (.ref C) "__ne__" = some (some (.builtin "object.__ne__")) := by
  unfold insB at h
  have h2 := an1 h
  exact ⟨of_decide_eq_true (an1 h2), of_decide_eq_true (an2 h2), of_decide_eq_true (an2 h)⟩
theorem tyx_all (M : MoreP K) (cl : ∀ c, Cls K (cA K c)) {H : Hp} {v : V} {d : D} (h : Dat K H v d) (hf : (∀ f c, d ≠ .fnc f c) ∧ (∀ a dx c l, d ≠ .exn a dx c l) ∧ ∀ l, d ≠ .scr l) : TyX K H v (tyO K d) := by
  cases d with
  | obj c l =>
    cases h with
    | obj h1 h2 =>
      obtain ⟨i1, i2, _⟩ := ins_of (M.ins c)
      exact .base (.ins h1 (cl c) i1 M.cg M.ct i2)
  | non => exact tyX_of h rfl
  | bl b => exact tyX_of h rfl
  | int i => exact tyX_of h rfl
  | str x => exact tyX_of h rfl
  | tup l => exact tyX_of h rfl
  | lst l => exact tyX_of h rfl
  | dic l => exact tyX_of h rfl
  | tape => exact tyX_of h rfl
  | fnc f c => exact absurd rfl (hf.1 f c)
  | exn a dx c l => exact absurd rfl (hf.2.1 a dx c l)
  | scr l => exact absurd rfl (hf.2.2 l)
end
section
variable {X : Cx} {δ : List Sl} {Φ : D → Prop} {e : Expr} {p pos : Pos} {x y : Str}
/-- isinstance(e, C), C a class of the text -/
theorem de_isO {c : Nat} {p2 : Pos} (M : MoreP X.K) (cl : ∀ c, Cls X.K (cA X.K c)) (hg : Gl X x) (hm : X.mg x = none) (hv : bootBuiltins x = some (.builtin "isinstance")) (hg2 : Gl X y) (hm2 : X.mg y = some (.ref (cA X.K c)))
    (h : DE X e δ fun d => ((∀ f c, d ≠ .fnc f c) ∧ (∀ a dx c l, d ≠ .exn a dx c l) ∧ ∀ l, d ≠ .scr l) ∧ ∃ r, PySem.W.kitOne X.K (tyO X.K d) (.ref (cA X.K c)) = some r ∧ Φ (.bl r)) (hn : x ≠ "__name__" := by decide) (hdb : (x == ("__debug__" : Str)) = false := by decide) (hdb2 : (y == ("__debug__" : Str)) = false := by decide)
    (he : starEach [e, .Name y p2] X.env = (false, eval e X.env) :: starEach [.Name y p2] X.env := by rfl) (hpl : (backTo pos (starEach [.Name y p2] X.env)).any (·.1) = false := by rfl) (he2 : starEach [.Name y p2] X.env = (false, eval (.Name y p2) X.env) :: starEach [] X.env := by rfl) :
    DE X (.Call (.Name x p) [e, .Name y p2] [] pos) δ Φ :=
  .of (pe_callB call_isi hg hm hv (pa_cons pe_E (pa_cons (pe_glob (v := .ref (cA X.K c)) hg2 hm2 rfl hdb2) pa_nil he2) he) hn hdb he hpl) fun σ H Q en k => h σ H _ en fun d v H1 ⟨hf, r, n, p⟩ k1 d1 =>
    ⟨v, .ref (cA X.K c), tyO X.K d, .ref (cA X.K c), r, rfl, .own _, tyx_all M cl d1 hf, n, k _ _ H1 p k1 (.bl _)⟩
end
/-! ### == and != by an own __eq__ -/
def rOwn (K : PySem.W.Frag) (c : Nat) (sp : DSp) (g : Bool → Bool) : R2 := fun x y H Q => ∃ a dx fs l d b, x = .ref a ∧ H a = some (.ins (cA K c) dx fs) ∧ DatF K H fs (fN c) l ∧ Dat K H y d ∧ PySem.W.notFirst K (cA K c) (tyO K d) = true ∧
  Tabs K H ∧ sp [.obj c l, d] (fun z => z = .bl b) no2 ∧ ∀ H', Kp K H H' → Q (.bl (g b)) H'
/-- what an own == has -/
structure EqM (P : Program) (w : World) (K : PySem.W.Frag) (mg : Str → Option Value) (base : Heap) (k : Nat) (c : Nat) (sp : DSp) : Prop where
  more : MoreP K
  cl : ∀ c, Cls K (cA K c)
  ex : ∃ (f : Addr) (fd : FuncData) (ps : List Str), FnOk P w K mg base (L2.CX P w) k f fd ps (toSp K sp) ∧ PySem.W.findIn K (.ref (cA K c)) "__eq__" = some (some (.ref f)) ∧ PySem.W.isFn K (.ref f) = true ∧ Binds K fd ps []
section
variable {X : Cx} {k c : Nat} {sp : DSp} {pins : List (Addr × Obj)} {σ : L2.St} {H : Hp} {s : Shared}
theorem nf_fnc {K : PySem.W.Frag} {C f c : Addr} (h : PySem.W.notFirst K C (tyO K (.fnc f c)) = true) : False := by
  unfold PySem.W.notFirst at h
  rcases Bool.or_eq_true_iff.mp h with z | z
  · have z := eq_of_beq z
    cases z
  · have z := eq_of_beq z
    cases z
theorem nf_exn {K : PySem.W.Frag} {C a dx : Addr} {c : Nat} {l : List D} (h : PySem.W.notFirst K C (tyO K (.exn a dx c l)) = true) : False := by
  unfold PySem.W.notFirst at h
  rcases Bool.or_eq_true_iff.mp h with z | z
  · have z := eq_of_beq z
    cases z
  · have z := eq_of_beq z
    cases z
theorem nf_scr {K : PySem.W.Frag} {C : Addr} {l : List Int} (h : PySem.W.notFirst K C (tyO K (.scr l)) = true) : False := by
  unfold PySem.W.notFirst at h
  rcases Bool.or_eq_true_iff.mp h with z | z
  · have z := eq_of_beq z
    cases z
  · have z := eq_of_beq z
    cases z
/-- the own == runs, from a body or from below a built-in -/
theorem eq_run {f a : Addr} {fd : FuncData} {ps : List Str} {A : Around} {v : V} {u : Value} {l : List D} {d : D} {b : Bool} (F : FnOk X.prog X.w X.K X.mg X.base (L2.CX X.prog X.w) k f fd ps (toSp X.K sp)) (hb : Binds X.K fd ps []) (hr : Room k A) (fr : A.frames = X.A.frames)
    (I : Inv X pins σ H s) (rv : RelV v u) (h1 : Dat X.K H (.ref a) (.obj c l)) (h2 : Dat X.K H v d) (t : Tabs X.K H) (hs : sp [.obj c l, d] (fun z => z = .bl b) no2) :
    wpAny (model X.prog X.w) A (call (.ref f) [.ref a, u]) (fun w s' => w = .bool b ∧ ∃ H', Inv X pins σ H' s' ∧ Kp X.K H H') X.xe s := by
  have hsp : toSp X.K sp [.ref a, v] H (fun z H' => z = .bl b ∧ Kp X.K H H') E0 := ⟨_, _, _, .cons h1 (.cons h2 .nil), t, hs, fun d u H' p kp hd => by
    subst p
    cases hd
    exact ⟨rfl, kp⟩, kx_no⟩
  have e := I.env0
  have e0 : Env0 X.prog X.w X.K X.mg X.base A X.stack s H := ⟨fr.trans e.frames, e.mod, e.bs, e.bsz, e.funs, e.frf, e.hok, e.bare⟩
  have hl : ([.ref a, u] : List Value).length = ps.length := F.len _ _ _ _ hsp
  have bd := hb s [.ref a, u] I.kIn (by rw [List.append_nil]; exact hl)
  rw [List.append_nil] at bd
  refine wpAny_call (codeAny_mono (F.run A X.stack s H ⟨[.ref a, u], []⟩ [.ref a, u] [.ref a, v] _ E0 hr e0 bd (.cons rfl (.cons rv .nil)) hsp) fun r s' hq => ?_)
  match r, hq with
  | .error z, hq => exact passL pins σ H s z s' I hq
  | .ok (.ret z), hq =>
    obtain ⟨z', H', I', rz, ez, kp⟩ := I.after hq
    subst ez
    cases rz
    exact ⟨rfl, H', I', kp⟩
theorem op_eqOwn (O : EqM X.prog X.w X.K X.mg X.base k c sp) (hr : Room k X.A) : OpR X (compareOp .Eq) (rOwn X.K c sp id) := fun pins s σ H x y v u Q I rx ry ⟨a, dx, fs, l, d, b, ex, ha, hl, hy, nf, t, hs, q⟩ => by
  obtain ⟨f, fd, ps, F, ff, hf, hb⟩ := O.ex
  subst ex
  cases rx
  obtain ⟨od, J, _⟩ := (ins_get I.hok ha).choose_spec.1.look
  obtain ⟨Pk, Z, pk, _⟩ := kit_of I ry (tyx_all O.more O.cl hy ⟨fun f c z => nf_fnc (by rw [z] at nf; exact nf), fun _ _ _ _ z => nf_exn (by rw [z] at nf; exact nf), fun _ z => nf_scr (by rw [z] at nf; exact nf)⟩)
  obtain ⟨m, hF⟩ := I.fr
  refine PySem.W.cmp_K (op := .Eq) hr.units0 hF I.ok.mod.kin J (Z.ty _ _ I.kIn pk) nf ff hf ?_
  refine wpAny_mono (eq_run F hb hr rfl I ry (.obj ha hl) hy t hs) (fun z s' ⟨ez, H', I', kp⟩ => ?_) fun _ _ z => z
  subst ez
  exact ⟨.bl b, H', I', rfl, q H' kp⟩
/-- x.__ne__(y) of an instance: object's, which asks __eq__ -/
theorem ne_slot {A : Around} {a f C : Addr} {od : Option Obj} {ox : Obj} {u : Value} {b : Bool} {Q : Value → Shared → Prop} {E : Value → Shared → Prop} (kin : X.K.In s.heap) (J : PySem.W.InstAt s.heap a ox C od) (hi : insB X.K C = true)
    (ff : PySem.W.findIn X.K (.ref C) "__eq__" = some (some (.ref f))) (hf : PySem.W.isFn X.K (.ref f) = true) (hu : A.units + 1 < cLine)
    (h : wpAny (model X.prog X.w) A.in1 (call (.ref f) [.ref a, u]) (fun z s' => z = .bool b ∧ Q (.bool (!b)) s') E s) :
    wpAny (model X.prog X.w) A (tryCompare (.ref a) "__ne__" u) (fun r s' => ∃ z, r = some z ∧ Q z s') E s := by
  obtain ⟨i1, i2, i3⟩ := ins_of hi
  have isO : Looks (model X.prog X.w) s.heap (isInstance (.ref a) (.type "object")) true := J.type.andThen (PySem.W.looks_mroIn kin i2)
  have body : wpAny (model X.prog X.w) A (call (.builtin "object.__ne__") [.ref a, u]) (fun z s' => z = .bool (!b) ∧ Q (.bool (!b)) s') E s := by
    refine wpAny_call (codeAny_call_builtin PySem.F.slot_object_ne.plain PySem.F.cmpEntry_ne (PySem.W.check_slot PySem.F.cmpKind_ne PySem.F.cmpSplit_ne isO (PySem.F.cmpArgs_ne _ _) ?_))
    unfold Builtin.«object.__ne__»
    refine wpAny_bind (m := slotArgs "__ne__" 1 ⟨[.ref a, u], []⟩) (wpAny_pure ?_)
    refine wpAny_bind (wpAny_cRoomFor hu ?_)
    refine wpAny_bind (PySem.W.ifBound_K kin J ff hf (wpAny_mono h (fun z s' ⟨ez, q⟩ => ?_) fun _ _ z => z))
    subst ez
    refine wpAny_bind (wpAny_truthy_bool ?_)
    exact wpAny_pure ⟨rfl, q⟩
  have bound : wpAny (model X.prog X.w) A (callSpecialIfBound? (.ref a) "__ne__" [u]) (fun r s' => r = some (.bool (!b)) ∧ Q (.bool (!b)) s') E s := by
    unfold callSpecialIfBound? bindSpecialIfBound?
    refine wpAny_holding (wpAny_bind (wpAny_bind (wpAny_bind (J.type.here ((PySem.W.looks_findIn kin i3).here ?_)))))
    refine wpAny_bind (wpAny_askSetting (wpAny_ite ?_))
    have fin : wpAny (model X.prog X.w) A (call (.builtin "object.__ne__") ([.ref a] ++ [u]) >>= fun v => pure (some v)) (fun r s' => r = some (.bool (!b)) ∧ Q (.bool (!b)) s') E s :=
      wpAny_bind (wpAny_mono body (fun z s' ⟨ez, q⟩ => wpAny_pure ⟨by rw [ez], q⟩) fun _ _ z => z)
    rw [PySem.F.slot_object_ne.bind]
    split
    · exact wpAny_bind (wpAny_pure (wpAny_pure (by exact fin)))
    · exact wpAny_tryCatch (wpAny_bind (wpAny_pure (wpAny_pure (by exact fin))))
  unfold tryCompare
  refine wpAny_bind (wpAny_mono bound (fun r s' ⟨er, q⟩ => ?_) fun _ _ z => z)
  subst er
  exact wpAny_pure ⟨_, rfl, q⟩
theorem op_neOwn (O : EqM X.prog X.w X.K X.mg X.base k c sp) (hr : Room (k + 1) X.A) : OpR X (compareOp .NotEq) (rOwn X.K c sp not) := fun pins s σ H x y v u Q I rx ry ⟨a, dx, fs, l, d, b, ex, ha, hl, hy, nf, t, hs, q⟩ => by
  obtain ⟨f, fd, ps, F, ff, hf, hb⟩ := O.ex
  subst ex
  cases rx
  obtain ⟨od, J, _⟩ := (ins_get I.hok ha).choose_spec.1.look
  obtain ⟨Pk, Z, pk, _⟩ := kit_of I ry (tyx_all O.more O.cl hy ⟨fun f c z => nf_fnc (by rw [z] at nf; exact nf), fun _ _ _ _ z => nf_exn (by rw [z] at nf; exact nf), fun _ z => nf_scr (by rw [z] at nf; exact nf)⟩)
  have one := ne_slot (Q := fun z s' => EP X pins σ Q z s') I.kIn J (O.more.ins c) ff hf (by have := hr.un; omega) (wpAny_mono (eq_run F hb hr.in1 rfl I ry (.obj ha hl) hy t hs) (fun z s' ⟨ez, H', I', kp⟩ => ⟨ez, .bl (!b), H', I', rfl, q H' kp⟩) fun _ _ z => z)
  show wpAny (model X.prog X.w) X.A (richCompare .NotEq (.ref a) u) (EP X pins σ Q) X.xe s
  unfold richCompare
  simp only [oneThing_ref]
  refine wpAny_holding (wpAny_bind (wpAny_cRoomFor hr.units0 ?_))
  refine wpAny_bind (J.type.here (wpAny_bind ((Z.ty (model X.prog X.w) _ I.kIn pk).here ?_)))
  by_cases hne : (Value.ref (cA X.K c) != tyO X.K d) = true
  · rw [if_pos hne]
    have e : PySem.W.subIn X.K (tyO X.K d) (.ref (cA X.K c)) = some false := by
      rcases Bool.or_eq_true_iff.mp nf with z | z
      · rw [eq_of_beq z, bne_self_eq_false] at hne
        cases hne
      · exact eq_of_beq z
    refine wpAny_bind ((PySem.W.looks_subIn I.kIn e).here ?_)
    rw [if_neg Bool.false_ne_true]
    refine wpAny_bind (wpAny_mono one (fun r s' ⟨z, ez, q⟩ => ?_) fun _ _ z => z)
    subst ez
    exact wpAny_pure q
  · rw [if_neg hne]
    refine wpAny_bind (wpAny_pure ?_)
    rw [if_neg Bool.false_ne_true]
    refine wpAny_bind (wpAny_mono one (fun r s' ⟨z, ez, q⟩ => ?_) fun _ _ z => z)
    subst ez
    exact wpAny_pure q
end
end Fr
end
-- FrP3
section
set_option Elab.async false
set_option linter.all false
set_option maxRecDepth 100000
namespace Fr
open PySem PySem.Spec PyProof.Rows L2
-- macros
local macro_rules | `(tactic| walk_at "side") => `(tactic| first | assumption | omega | rfl | decide)
local macro_rules | `(tactic| walk_at "cm") => `(tactic| first | exact .inl ⟨by omega, by omega⟩ | exact .inr ⟨by omega, by omega⟩)
local macro_rules | `(tactic| walk_at "len") => `(tactic| first | decide | (show _ ≤ sizeLine; simp only [List.length_cons, List.length_nil]; decide))
local macro_rules | `(tactic| walk_at "add") => `(tactic| first | refine od_addI ?_ | refine od_addT (by walk_at "side") ?_ | refine od_addL (by walk_at "side") ?_)
local macro_rules | `(tactic| walk_at "mul") => `(tactic| first | refine od_mulI (by walk_at "cm") ?_ | refine od_mulT (by walk_at "side") (by walk_at "side") (by walk_at "side") ?_)
local macro_rules | `(tactic| walk_at "ok") => `(tactic| first | assumption | (simp only [D.ok, okL, Bool.and_true, Bool.true_and]; first | done | assumption | decide))
local macro_rules | `(tactic| walk_at "eq") => `(tactic| first | refine od_eqII ?_ | refine od_eq 20 20 (by walk_at "ok") (by walk_at "ok") (by omega) ?_)
local macro_rules | `(tactic| walk_at "ne") => `(tactic| first | refine od_neII ?_ | refine od_ne 20 20 (by walk_at "ok") (by walk_at "ok") (by omega) ?_)
local macro_rules | `(tactic| walk_at "slice") => `(tactic| first | refine .inl ⟨_, rfl, ?_⟩ | refine .inr ⟨_, rfl, ?_⟩)
local macro_rules | `(tactic| walk_at "vis") => `(tactic| first | exact .inl rfl | exact .inr (.inl rfl) | exact .inr (.inr rfl))
local macro_rules | `(tactic| walk_at "loc") => `(tactic| first | exact .inl rfl | exact .inr rfl)
local macro_rules | `(tactic| walk_at "locf") => `(tactic| first | exact .inr rfl | exact .inl rfl)
-- end macros
/-- what the law asks a paper to be compared with -/
inductive Oth : D → Prop where
  | non : Oth .non
  | tup (l : List D) : Oth (.tup l)
  | t (n : Nat) (f g : List Int) : Oth (TObj n f g)
  | s (n : Nat) (w : List Int) (q : List (List Int)) (ws : List (List Int)) (qs : List (List (List Int))) : Oth (SObj n w q ws qs)
theorem Oth.nf {d : D} (h : Oth d) : (∀ f c, d ≠ .fnc f c) ∧ (∀ a dx c l, d ≠ .exn a dx c l) ∧ ∀ l, d ≠ .scr l := by
  refine ⟨fun f c z => ?_, fun a dx c l z => ?_, fun l z => ?_⟩
  · subst z
    cases h
  · subst z
    cases h
  · subst z
    cases h
def isTO : D → Bool
  | .obj 0 _ => true
  | _ => false
def isSO : D → Bool
  | .obj 1 _ => true
  | _ => false
section
variable {P : Program} {w : World} {K : PySem.W.Frag} {mg : Str → Option Value} {base : Heap}
theorem kit_ok {x y : Value} {b : Bool} (h : kit1 K x y b = true) : PySem.W.kitOne K x y = some b := of_decide_eq_true h
theorem kit_T (M : MoreP K) {d : D} (h : Oth d) : PySem.W.kitOne K (tyO K d) (.ref (cA K 0)) = some (isTO d) := by
  cases h with
  | non => exact kit_ok M.nt
  | tup l => exact kit_ok M.ut
  | t n f g => exact kit_ok M.tt
  | s n w q ws qs => exact kit_ok M.st
theorem kit_S (M : MoreP K) {d : D} (h : Oth d) (hn : d ≠ .non) : PySem.W.kitOne K (tyO K d) (.ref (cA K 1)) = some (isSO d) := by
  cases h with
  | non => exact absurd rfl hn
  | tup l => exact kit_ok M.us
  | t n f g => exact kit_ok M.ts
  | s n w q ws qs => exact kit_ok M.ss
theorem nf_T (M : MoreP K) {d : D} (h : Oth d) : PySem.W.notFirst K (cA K 0) (tyO K d) = true := by
  unfold PySem.W.notFirst
  cases h with
  | non =>
    rw [show tyO K .non = .type "NoneType" from rfl, show Value.ref (cA K 0) = gV K "TablePaper" from rfl, M.s4]
    exact Bool.or_true _
  | tup l =>
    rw [show tyO K (.tup l) = .type "tuple" from rfl, show Value.ref (cA K 0) = gV K "TablePaper" from rfl, M.s2]
    exact Bool.or_true _
  | t n f g =>
    rw [show tyO K (TObj n f g) = .ref (cA K 0) from rfl, beq_self_eq_true]
    rfl
  | s n w q ws qs =>
    rw [show tyO K (SObj n w q ws qs) = gV K "SumsPaper" from rfl, show Value.ref (cA K 0) = gV K "TablePaper" from rfl, M.s1]
    exact Bool.or_true _
theorem nf_S (M : MoreP K) {d : D} (h : (∃ l, d = .tup l) ∨ ∃ n w q ws qs, d = SObj n w q ws qs) : PySem.W.notFirst K (cA K 1) (tyO K d) = true := by
  unfold PySem.W.notFirst
  rcases h with ⟨l, rfl⟩ | ⟨n, w, q, ws, qs, rfl⟩
  · rw [show tyO K (.tup l) = .type "tuple" from rfl, show Value.ref (cA K 1) = gV K "SumsPaper" from rfl, M.s3]
    exact Bool.or_true _
  · rw [show tyO K (SObj n w q ws qs) = .ref (cA K 1) from rfl, beq_self_eq_true]
    rfl
def sp_teq : DSp := fun ds Φ Ψ => ∃ n f g d, ds = [TObj n f g, d] ∧ Oth d ∧ ∀ b : Bool, (b = true ↔ d = TObj n f g) → Φ (.bl b)
theorem ok_teq (T : Tx K mg base) : EqM P w K mg base 1 0 sp_teq := by
  have M := more_parts T.m
  obtain ⟨fd, F⟩ := T.d.def_ 55 (d := d_TablePaper_eq) rfl
  have sc : FnScope ["self", "other"] ["self", "other"] (defScope s_TablePaper_eq) := ⟨rfl, rfl, rfl, by decide +kernel, rfl, by decide +kernel, by decide +kernel⟩
  have mt : Meth K (cA K 0) "__eq__" _ := He.meth_ok (T.d.fact 74 (f := .meth "TablePaper" "__eq__") rfl)
  refine ⟨M, T.cls, _, fd, ["self", "other"], fn_ok F sc (fun ds Φ Ψ ⟨_, _, _, _, h, _⟩ => by rw [h] <;> rfl) fun cdv A outer s H E hcd _ hr ds Φ Ψ h => ?_, mt.at_, mt.fn, F.bindsN fun _ _ _ _ _ _ us hl => match us, hl with | [_, _], _ => rfl⟩
  obtain ⟨n, f, g, d, rfl, ho, hΦ⟩ := h
  refine dss_one (ds_ret ?_)
  refine de_and ?_
  refine de_isO (c := 0) M T.cls rfl (b_isinstance T) (by decide +kernel) rfl (T.glo 56 rfl) ?_
  refine de_var 1 rfl (.inl rfl) rfl ?_
  refine ⟨ho.nf, _, kit_T M ho, ?_⟩
  refine ⟨_, rfl, fun hb => ?_, fun hb => ?_⟩
  · cases ho with
    | non => cases hb
    | tup l => cases hb
    | s n w q ws qs => cases hb
    | t n' f' g' =>
    refine de_one ?_
    refine de_cmpO (op_eqD hr.units) rfl ?_
    refine de_tup ?_
    refine da_cons ?_
    refine de_fld (T.cls) ?_
    refine de_var 0 rfl (.inl rfl) rfl ?_
    refine ⟨0, _, .int n, rfl, no_n0 T, rfl, ?_⟩
    refine da_cons ?_
    refine de_fld (T.cls) ?_
    refine de_var 0 rfl (.inl rfl) rfl ?_
    refine ⟨0, _, wd f, rfl, no_f T, rfl, ?_⟩
    refine da_cons ?_
    refine de_fld (T.cls) ?_
    refine de_var 0 rfl (.inl rfl) rfl ?_
    refine ⟨0, _, wd g, rfl, no_g T, rfl, ?_⟩
    refine da_nil ?_
    refine ⟨by walk_at "len", ?_⟩
    refine de_tup ?_
    refine da_cons ?_
    refine de_fld (T.cls) ?_
    refine de_var 1 rfl (.inl rfl) rfl ?_
    refine ⟨0, _, .int n', rfl, no_n0 T, rfl, ?_⟩
    refine da_cons ?_
    refine de_fld (T.cls) ?_
    refine de_var 1 rfl (.inl rfl) rfl ?_
    refine ⟨0, _, wd f', rfl, no_f T, rfl, ?_⟩
    refine da_cons ?_
    refine de_fld (T.cls) ?_
    refine de_var 1 rfl (.inl rfl) rfl ?_
    refine ⟨0, _, wd g', rfl, no_g T, rfl, ?_⟩
    refine da_nil ?_
    refine ⟨by walk_at "len", ?_⟩
    have tok : ∀ (n : Nat) (f g : List Int), (D.tup [.int n, wd f, wd g]).ok 3 = true := fun n f g => by
      rw [ok_tup]
      exact okL_iff.mpr fun d hd => by
        rcases List.mem_cons.mp hd with rfl | hd
        · rw [D.ok]
        rcases List.mem_cons.mp hd with rfl | hd
        · exact ok_wd f 1
        rcases List.mem_cons.mp hd with rfl | hd
        · exact ok_wd g 1
        cases hd
    refine od_eq 3 3 (tok _ _ _) (tok _ _ _) (by omega) ?_
    refine hΦ _ ?_
    rw [eqv_tt, eqvA_cons, eqvA_cons, eqvA_cons, eqvA_nil, eqv_ii, eqv_ww, eqv_ww]
    constructor
    · intro h
      simp only [Bool.and_eq_true, decide_eq_true_iff, beq_iff_eq] at h
      obtain ⟨h1, h2, h3, _⟩ := h
      have h1 : n = n' := by omega
      rw [h1, h2, h3]
    · intro h
      injection h with _ h
      injection h with h1 h
      injection h with h2 h
      injection h with h3 _
      rw [D.int.inj h1, wd_inj h2, wd_inj h3]
      simp
  · refine hΦ false ⟨fun z => (by cases z), fun z => ?_⟩
    rw [z] at hb
    cases hb
def sp_seq : DSp := fun ds Φ Ψ => ∃ n w q ws qs d, ds = [SObj n w q ws qs, d] ∧ ((∃ l, d = .tup l) ∨ ∃ n w q ws qs, d = SObj n w q ws qs) ∧ ∀ b : Bool, (b = true ↔ ∃ n', d = SObj n' w q ws qs) → Φ (.bl b)
theorem ok_seq (T : Tx K mg base) : EqM P w K mg base 1 1 sp_seq := by
  have M := more_parts T.m
  obtain ⟨fd, F⟩ := T.d.def_ 59 (d := d_SumsPaper_eq) rfl
  have sc : FnScope ["self", "other"] ["self", "other"] (defScope s_SumsPaper_eq) := ⟨rfl, rfl, rfl, by decide +kernel, rfl, by decide +kernel, by decide +kernel⟩
  have mt : Meth K (cA K 1) "__eq__" _ := He.meth_ok (T.d.fact 79 (f := .meth "SumsPaper" "__eq__") rfl)
  refine ⟨M, T.cls, _, fd, ["self", "other"], fn_ok F sc (fun ds Φ Ψ ⟨_, _, _, _, _, _, h, _⟩ => by rw [h] <;> rfl) fun cdv A outer s H E hcd _ hr ds Φ Ψ h => ?_, mt.at_, mt.fn, F.bindsN fun _ _ _ _ _ _ us hl => match us, hl with | [_, _], _ => rfl⟩
  obtain ⟨n, w', q, ws, qs, d, rfl, ho, hΦ⟩ := h
  have ho2 : Oth d := by
    rcases ho with ⟨l, rfl⟩ | ⟨n, w, q, ws, qs, rfl⟩
    · exact .tup l
    · exact .s ..
  have hn : d ≠ .non := by
    rcases ho with ⟨l, rfl⟩ | ⟨n, w, q, ws, qs, rfl⟩ <;> exact fun z => by cases z
  refine dss_cons (ds_if ?_)
  refine dt_W ?_
  refine dw_or ?_
  refine dt_not ?_
  refine dt_val (by intro _; rfl) ?_
  refine de_isO (c := 1) M T.cls rfl (b_isinstance T) (by decide +kernel) rfl (T.glo 57 rfl) ?_
  refine de_var 1 rfl (.inl rfl) rfl ?_
  refine ⟨ho2.nf, _, kit_S M ho2 hn, ?_⟩
  refine isBl_of ?_
  have retF : (b : Bool) → b = false → (b = true ↔ ∃ n', d = SObj n' w' q ws qs) → ∀ (δ : List Sl), DSs (bcx P w K mg base ["self", "other"] "SumsPaper.__eq__" (defScope s_SumsPaper_eq) (He.fAd K ("SumsPaper", some "__eq__")) cdv A outer s H E)
      (match defBody s_SumsPaper_eq with | .If _ b _ _ :: _ => b | _ => []) δ { nx := fun δ' => DSs (bcx P w K mg base ["self", "other"] "SumsPaper.__eq__" (defScope s_SumsPaper_eq) (He.fAd K ("SumsPaper", some "__eq__")) cdv A outer s H E) (defBody s_SumsPaper_eq).tail δ' { nx := fun _ => Φ .non, rt := Φ, ex := Ψ }, rt := Φ, ex := Ψ } := fun b eb hb δ => by
    refine dss_one (ds_ret ?_)
    refine de_bl ?_
    subst eb
    exact hΦ false hb
  refine ⟨fun hb => ?_, fun hb => ?_⟩
  · refine ⟨fun _ => retF _ rfl ⟨fun z => (by cases z), fun ⟨_, z⟩ => ?_⟩ _, fun z => (by cases z)⟩
    rw [z] at hb
    cases hb
  · obtain ⟨n2, w2, q2, ws2, qs2, rfl⟩ : ∃ n w q ws qs, d = SObj n w q ws qs := by
      rcases ho with ⟨l, rfl⟩ | ho
      · cases hb
      · exact ho
    have sok : ∀ (q : List (List Int)) (w : List Int), (D.tup [wd w, sq q]).ok 3 = true := fun q w => by
      rw [ok_tup]
      exact okL_iff.mpr fun d hd => by
        rcases List.mem_cons.mp hd with rfl | hd
        · exact ok_wd w 1
        rcases List.mem_cons.mp hd with rfl | hd
        · exact ok_sq q 0
        cases hd
    have tok : ∀ (ws : List (List Int)) (qs : List (List (List Int))), (D.tup [.tup (ws.map wd), .tup (qs.map sq)]).ok 4 = true := fun ws qs => by
      rw [ok_tup]
      exact okL_iff.mpr fun d hd => by
        rcases List.mem_cons.mp hd with rfl | hd
        · exact wds_ok ws 1
        rcases List.mem_cons.mp hd with rfl | hd
        · exact sqs_ok qs 0
        cases hd
    refine dw_one_or ?_
    refine dt_cmpO (op_neD hr.units) rfl ?_
    refine de_tup ?_
    refine da_cons ?_
    refine de_fld (T.cls) ?_
    refine de_var 0 rfl (.inl rfl) rfl ?_
    refine ⟨1, _, wd w', rfl, no_word T, rfl, ?_⟩
    refine da_cons ?_
    refine de_fld (T.cls) ?_
    refine de_var 0 rfl (.inl rfl) rfl ?_
    refine ⟨1, _, sq q, rfl, no_square T, rfl, ?_⟩
    refine da_nil ?_
    refine ⟨by walk_at "len", ?_⟩
    refine de_tup ?_
    refine da_cons ?_
    refine de_fld (T.cls) ?_
    refine de_var 1 rfl (.inl rfl) rfl ?_
    refine ⟨1, _, wd w2, rfl, no_word T, rfl, ?_⟩
    refine da_cons ?_
    refine de_fld (T.cls) ?_
    refine de_var 1 rfl (.inl rfl) rfl ?_
    refine ⟨1, _, sq q2, rfl, no_square T, rfl, ?_⟩
    refine da_nil ?_
    refine ⟨by walk_at "len", ?_⟩
    refine od_ne 3 3 (sok _ _) (sok _ _) (by omega) ?_
    refine isBl_of ?_
    rw [eqv_tt, eqvA_cons, eqvA_cons, eqvA_nil, eqv_ww, eqv_qq]
    refine ⟨fun hb => ?_, fun hb => ?_⟩
    · refine retF _ rfl ⟨fun z => (by cases z), fun ⟨_, z⟩ => ?_⟩ _
      injection z with _ h
      injection h with h1 h
      injection h with h2 h
      injection h with h3 _
      rw [wd_inj h2, sq_inj h3] at hb
      simp at hb
    · simp only [Bool.not_eq_false', Bool.and_eq_true, decide_eq_true_iff] at hb
      obtain ⟨rfl, rfl, _⟩ := hb
      refine dss_nil ?_
      refine dss_one (ds_ret ?_)
      refine de_cmpO (op_eqD hr.units) rfl ?_
      refine de_tup ?_
      refine da_cons ?_
      refine de_fld (T.cls) ?_
      refine de_var 0 rfl (.inl rfl) rfl ?_
      refine ⟨1, _, .tup (ws.map wd), rfl, no_words T, rfl, ?_⟩
      refine da_cons ?_
      refine de_fld (T.cls) ?_
      refine de_var 0 rfl (.inl rfl) rfl ?_
      refine ⟨1, _, .tup (qs.map sq), rfl, no_squares T, rfl, ?_⟩
      refine da_nil ?_
      refine ⟨by walk_at "len", ?_⟩
      refine de_tup ?_
      refine da_cons ?_
      refine de_fld (T.cls) ?_
      refine de_var 1 rfl (.inl rfl) rfl ?_
      refine ⟨1, _, .tup (ws2.map wd), rfl, no_words T, rfl, ?_⟩
      refine da_cons ?_
      refine de_fld (T.cls) ?_
      refine de_var 1 rfl (.inl rfl) rfl ?_
      refine ⟨1, _, .tup (qs2.map sq), rfl, no_squares T, rfl, ?_⟩
      refine da_nil ?_
      refine ⟨by walk_at "len", ?_⟩
      refine od_eq 4 4 (tok _ _) (tok _ _) (by omega) ?_
      refine hΦ _ ?_
      have e3 : ∀ a b : List (List (List Int)), D.eqv (.tup (a.map sq)) (.tup (b.map sq)) = decide (a = b) := fun a => by
        induction a with
        | nil => intro b; cases b <;> rw [eqv_tt] <;> simp [pyL, PyData.eqvAll]
        | cons x a ih =>
          intro b
          cases b with
          | nil => rw [eqv_tt]; simp [pyL, PyData.eqvAll]
          | cons y b =>
            have ih := ih b
            rw [eqv_tt] at ih ⊢
            rw [List.map_cons, List.map_cons, eqvA_cons, ih, eqv_qq, Bool.eq_iff_iff]
            simp
      rw [eqv_tt, eqvA_cons, eqvA_cons, eqvA_nil, eqv_qq, e3]
      constructor
      · intro h
        simp only [Bool.and_eq_true, decide_eq_true_iff] at h
        obtain ⟨rfl, rfl, _⟩ := h
        exact ⟨n2, rfl⟩
      · intro ⟨n', h⟩
        injection h with _ h
        injection h with _ h
        injection h with _ h
        injection h with _ h
        injection h with h4 h
        injection h with h5 _
        have h4 : ws2 = ws := sq_inj h4
        have h5 : qs2 = qs := by
          have h5 : qs2.map sq = qs.map sq := D.tup.inj h5
          exact (List.map_inj_right fun a b e => sq_inj e).mp h5
        rw [h4, h5]
        simp
end
end Fr
end
-- FrLam
section
set_option Elab.async false
set_option linter.all false
set_option maxRecDepth 100000
/-! A lambda with one parameter and one captured name, handed to a def. -/
namespace Fr
open PySem PySem.Spec PyProof.Rows L2
/-! ### its making -/
theorem Kp.lam {K : PySem.W.Frag} {H : Hp} {c' : Addr} {ps qs : Array Value} (hP : H (ltab K) = some (.tbl ps)) (hc : H c' = none) (hne : ∀ P ∈ gtab K, P ≠ ltab K) (ht : TriplesOk qs.toList)
    (ha : ∀ (pos : Pos) (cv : Value), codeAmong pos qs.toList = some cv → (∃ c, cv = .ref c ∧ H c = some (LamX.CodeO c lamQ)) ∨ cv = .ref c') : Kp K H (upd (upd H (ltab K) (.tbl qs)) c' (LamX.CodeO c' lamQ)) := by
  have old : ∀ b u, H b = some u → (∀ q, u ≠ .tbl q) → upd (upd H (ltab K) (.tbl qs)) c' (LamX.CodeO c' lamQ) b = some u := fun b u e n => by
    rw [upd_ne (show b ≠ c' from fun z => (by rw [z, hc] at e; cases e)), upd_ne (show b ≠ ltab K from fun z => (by rw [z, hP] at e; exact n ps (Option.some.inj e).symm))]
    exact e
  have nl : ltab K ≠ c' := fun z => by rw [← z, hP] at hc; cases hc
  refine ⟨fun p o e st => old p o e fun q z => by rw [z] at st; exact st, fun a l ⟨cs, i1, i2, i3, i4, i5, e1, e2, e3⟩ => ⟨cs, i1, i2, i3, i4, i5, old _ _ e1 fun q z => (by cases z), old _ _ e2 fun q z => (by cases z), e3⟩, fun ⟨t1, _⟩ => ⟨fun Q hQ => ?_, qs, ?_, ht, fun pos cv e => ?_⟩, fun p e => ?_⟩
  · obtain ⟨r, r1, r2⟩ := t1 Q hQ
    refine ⟨r, ?_, r2⟩
    rw [upd_ne (show Q ≠ c' from fun z => (by rw [z, hc] at r1; cases r1)), upd_ne (hne Q hQ)]
    exact r1
  · rw [upd_ne nl, upd_same]
  · rcases ha pos cv e with ⟨c, e1, e2⟩ | e1
    · exact ⟨c, e1, old _ _ e2 LamX.codeO_ne⟩
    · exact ⟨c', e1, upd_same⟩
  · by_cases h1 : p = c'
    · rw [h1, upd_same] at e
      cases e
    · rw [upd_ne h1] at e
      by_cases h2 : p = ltab K
      · rw [h2, upd_same] at e
        cases e
      · rw [upd_ne h2] at e
        exact e
section
variable {X : Cx} {pins : List (Addr × Obj)} {σ : L2.St} {H : Hp} {s : Shared}
abbrev lamO (X : Cx) (params : Arguments) (body : Expr) (scope : Scope) (pm : Value) (c' : Addr) (ctv : Value) : Obj := PySem.W.kla_obj "<lambda>" lamQ params body scope (cloFrom X.env.cells scope.names []) pm c' ctv
theorem lam_made {c : Addr} {params : Arguments} {body : Expr} {scope : Scope} {pos : Pos} {E Q : Value → Shared → Prop} (I : Inv X pins σ H s) (tabs : Tabs X.K H) (hne : ∀ P ∈ gtab X.K, P ≠ ltab X.K) (TB : LamX.TabB X.base X.mg c (ltab X.K)) (hcode : X.env.code = .ref c)
    (hq : X.env.qual ++ "<lambda>" = lamQ) (hdef : defaultsOf params X.env = ([], [])) (hfree : ∀ y ∈ scope.names, y.2 = .free → ∃ c, X.env.cells.lookup y.1 = some c)
    (h : ∀ (f c' : Addr) (pm ctv : Value) (H1 : Hp) (s' : Shared), Inv X pins σ H1 s' → Kp X.K H H1 → s'.heap.get? f = some (lamO X params body scope pm c' ctv) → H1 f = none → f ∉ frs X.stack → H1 c' = some (LamX.CodeO c' lamQ) → Q (.ref f) s') :
    wpAny (model X.prog X.w) X.A (eval (.Lambda params body scope pos) X.env) Q E s := by
  obtain ⟨ps, hP, ht, ha⟩ := tabs.2
  have above : ∀ f, s.heap.objs.size ≤ f → f ∉ frs X.stack := fun f hf z => (List.mem_cons.mp (I.stkSub _ z)).elim (fun e => absurd I.lt (by rw [← e]; exact Nat.not_lt.mpr hf)) (I.nofs hf)
  have obj : s.heap.get? (ltab X.K) = some { cls := .none, data := .fields ps } := I.hok _ _ hP
  have small := Heap.lt_size obj
  have bP := TB.bm.keeps I.bk
  have clo := closure_ok hfree
  have gl := I.mod.glob.keeps I.bk
  have ch := TB.code.keeps I.bk
  refine PySem.W.kla_eval hdef ?_
  rw [hq]
  cases among : codeAmong pos ps.toList with
  | some cv =>
    obtain ⟨c', e, hco⟩ := ha pos cv among
    rw [e] at among
    exact PySem.W.kla_makeFunctionHit (mg := X.mg) (c := c) (P := ltab X.K) (ps := ps) clo I.ok.glob gl hcode ch obj ht among bP fun ctv h' tk kept hsz =>
      h h'.objs.size c' _ ctv H _ (I.kept fun b o e => Heap.get?_push_of_some _ (kept b o e)) (Kp.refl _ _) (Heap.get?_push_size _ rfl) (I.hok.fresh hsz) (above _ hsz) hco
  | none =>
    refine PySem.W.kla_makeFunction (mg := X.mg) (c := c) (P := ltab X.K) (ps := ps) clo I.ok.glob gl hcode ch obj ht among TB.gP bP fun c' ctv h' tk ext hge hlt ⟨c2, oc, vs, t, e2, hoc, hd, hv⟩ htb => ?_
    cases e2
    have hc : H c' = none := I.hok.fresh hge
    have big : s.heap.objs.size ≤ h'.objs.size := Nat.le_trans hge (Nat.le_of_lt hlt)
    have tl : (ps ++ #[rawInt pos.line, rawInt pos.col, .ref c']).toList = ps.toList ++ [rawInt pos.line, rawInt pos.col, .ref c'] := by rw [Array.toList_append]
    refine h h'.objs.size c' _ ctv _ _ (LamX.inv_table (t' := tk) (q := lamQ) (more := #[rawInt pos.line, rawInt pos.col, .ref c']) I hP (fun b o hb e => Heap.get?_push_of_some _ (ext b o hb e)) (Heap.get?_push_of_some _ htb) hge ⟨oc, vs, t, Heap.get?_push_of_some _ hoc, hd, hv⟩)
      (Kp.lam hP hc hne (by rw [tl]; exact PySem.TriplesOk_snoc _ _ _ _ ht) fun p' cv e => ?_) (Heap.get?_push_size _ rfl) ?_ (above _ big) upd_same
    · rw [tl] at e
      exact (LamX.among_app _ ht e).imp (fun z => ha p' cv z) id
    · rw [upd_ne (Nat.ne_of_gt hlt), upd_ne (Nat.ne_of_gt (Nat.lt_of_lt_of_le small big))]
      exact I.hok.fresh big
end
/-! ### its body -/
structure LamP (sc scope : Scope) (a b : Str) : Prop where
  kind : scope.kind = .function
  co : scope.isCoroutine = false
  gen : scope.isGenerator = false
  cell : ∀ y ∈ scope.names, y.2 ≠ .cell
  par : scope.names.lookup a = some .local
  cap : scope.names.lookup b = some .free
  free : ∀ y ∈ scope.names, y.2 = .free → sc.names.lookup y.1 = some .cell ∨ sc.names.lookup y.1 = some .free
theorem LamP.has {X : Cx} {scope : Scope} {a b : Str} (L : LamP X.env.scope scope a b) (ok : X.Ok) : ∀ y ∈ scope.names, y.2 = .free → ∃ c, X.env.cells.lookup y.1 = some c := fun y hy e => ok.has _ (L.free y hy e)
abbrev lmEnv (X : Cx) (scope : Scope) (L f c' : Addr) : PySem.Env := PySem.W.envX lamQ scope L f (.ref c') (cloFrom X.env.cells scope.names [])
/-- where the body runs, entered at s -/
def lmCx (X : Cx) (N : List Str) (A : Around) (outer : List PySem.Env) (s : Shared) (H : Hp) (scope : Scope) (f c' : Addr) : Cx :=
  let en := lmEnv X scope s.heap.objs.size f c'
  let out := fun (e : Value) (s2 : Shared) => L2.CX X.prog X.w outer H s E0 e s2
  ⟨X.prog, X.w, X.K, X.mg, X.base, A.deeper en, N, s, H, en, outer, en :: outer, [], fun _ => false, true, [], fun e s' => wpAny (model X.prog X.w) (A.deeper en) (leaving en e) (fun _ => out e) out s'⟩
section
variable {X : Cx} {pins : List (Addr × Obj)} {σ : L2.St} {H HZ : Hp} {s s1 : Shared}
theorem lm_start {A : Around} {outer : List PySem.Env} {scope : Scope} {f c' : Addr} {h₁ : Heap} {tk : Nat} {a b : Str} {v z : V} {u : Value} {i : Nat} (I : Inv X pins σ H s) (L : LamP X.env.scope scope a b) (hi : X.N[i]? = some b) (hz : σ[i]? = some (some z)) (rv : RelV v u)
    (e0 : Env0 X.prog X.w X.K X.mg X.base A outer s1 HZ) (hd : A.handled = none) (un : Un (frs X.stack) [] H HZ s.heap s1.heap) (hns : h₁.Ns s1.heap.objs.size fun y => ([(a, u)] : List (Str × Value)).reverse.lookup y) (kp : ∀ b o, s1.heap.get? b = some o → h₁.get? b = some o) :
    Inv (lmCx X [a, b] A outer s1 HZ scope f c') [] [some v, some z] HZ { s1 with heap := h₁, toks := tk } := by
  have fromX : ∀ {y c}, (cloFrom X.env.cells scope.names []).lookup y = some c → X.env.cells.lookup y = some c := fun {y c} e => by
    rcases cloFrom_mem (PySem.mem_of_lookup e) with hm | ⟨h1, h2⟩
    · exact absurd hm (List.not_mem_nil)
    · obtain ⟨c1, hc⟩ := L.has I.ok _ h1 rfl
      rw [h2]
      rw [show X.env.cells.lookup y = some c1 from hc]
      rfl
  have toL : ∀ {y}, scope.names.lookup y = some .free → ∃ c, (cloFrom X.env.cells scope.names []).lookup y = some c := fun hl => mem_lookup (cloFrom_has (cells := X.env.cells) (acc := []) (PySem.mem_of_lookup hl))
  have stays : ∀ {c : Addr} {w : Option Value}, H c = none → s.heap.IsCell c w → h₁.IsCell c w := fun {c w} n ⟨o, ho, hw⟩ => by
    obtain ⟨sl, q⟩ := un.any ho n (List.not_mem_nil)
    exact ⟨_, kp _ _ q, hw⟩
  have none_ex : ∀ q : Addr, q ∉ (lmCx X [a, b] A outer s1 HZ scope f c').ex := fun q => List.not_mem_nil (a := q)
  have okL : (lmCx X [a, b] A outer s1 HZ scope f c').Ok := {
    mod := e0.mod, kind := L.kind, glob := rfl, blt := rfl, above := Nat.le_refl _
    inj := fun x y c e1 e2 => I.ok.inj x y c (fromX e1) (fromX e2)
    has := fun y hy => by
      have hy : scope.names.lookup y = some .cell ∨ scope.names.lookup y = some .free := hy
      exact hy.elim (fun q => absurd rfl (L.cell _ (PySem.mem_of_lookup q))) toL
    cab := fun y c q _ => (by cases (show false = true from q))
    hd := fun _ => hd
    frames := Around.frames_deeper e0.frames
    stk := .inr ⟨rfl, rfl⟩
    exf := fun q m => absurd m (none_ex q)
    bs := e0.bs, bsz := e0.bsz
    noex := fun q _ _ => none_ex q
    exfs := fun q m => absurd m (none_ex q)
    funs := e0.funs, frf := e0.frf }
  refine { ok := okL, os := rfl, bare := e0.bare, base := Un.kept kp, loc := ⟨_, hns, fun j y t e1 e2 e3 => ?_⟩, cell := fun y c e => ?_, free := e0.hok.fresh (Nat.le_refl _), freeC := fun y c e => ?_, pin := fun q hq => absurd (show q ∈ ([] : List (Addr × Obj)) from hq) (List.not_mem_nil), hok := e0.hok.kept kp, len := rfl }
  · match j with
    | 0 =>
      cases e1
      cases e2
      exact ⟨u, rv, .inl ⟨L.par, by show ([(a, u)] : List (Str × Value)).reverse.lookup a = some u; rw [List.reverse_singleton, List.lookup_cons_self]⟩⟩
    | 1 =>
      cases e1
      cases e2
      obtain ⟨m, _, hl⟩ := I.loc
      have sc := L.free _ (PySem.mem_of_lookup L.cap) rfl
      obtain ⟨q, r, look⟩ := hl i b z hi hz (.inr sc)
      obtain ⟨c2, h2⟩ := toL L.cap
      refine ⟨q, r, .inr ⟨.inr L.cap, c2, h2, ?_⟩⟩
      rcases look with ⟨k', _⟩ | ⟨_, c3, e', is⟩
      · have k' : X.env.scope.names.lookup b = some .local := k'
        rcases sc with k2 | k2 <;> rw [show X.env.scope.names.lookup b = _ from k2] at k' <;> cases k'
      · rw [fromX h2] at e'
        cases e'
        exact stays (I.freeC b c2 (fromX h2)) is
    | j + 2 => cases e1
  · obtain ⟨q, is⟩ := I.cell y c (fromX e)
    exact ⟨q, stays (I.freeC y c (fromX e)) is⟩
  · obtain ⟨_, o, ho, _⟩ := I.cell y c (fromX e)
    exact un.free c o ho (I.freeC y c (fromX e)) (List.not_mem_nil)
/-- what the lambda gives at its argument -/
def ActD (X : Cx) (body : Expr) (scope : Scope) (f c' : Addr) (k : Nat) (a b : Str) (n : Int) (Φ : D → Prop) (ds : List D) : Prop := ∃ d, ds = [d] ∧
  ∀ (A : Around) (outer : List PySem.Env) (s' : Shared) (H' : Hp), Room k (A.deeper (lmEnv X scope s'.heap.objs.size f c')) → DE (lmCx X [a, b] A outer s' H' scope f c') body [.v d, .v (.int n)] Φ
/-- x(y), in the def that got the lambda: that def's context, entered at s -/
theorem de_act {Eg : XK} {Ng : List Str} {qg : Str} {sg : Scope} {g f c' : Addr} {cdg pm ctv : Value} {params : Arguments} {body : Expr} {scope : Scope} {k i j : Nat} {a b x : Str} {n : Int} {δ : List Sl} {Φ : D → Prop} {arg : Expr} {p1 p2 : Pos}
    (I : Inv X pins σ H s) (L : LamP X.env.scope scope a b) (hi : X.N[i]? = some b) (hz : σ[i]? = some (some (.int n))) (hf : s.heap.get? f = some (lamO X params body scope pm c' ctv)) (hfn : H f = none) (hfr : f ∉ frs X.stack)
    (hbind : ∀ u, bindArgs (PySem.W.kla_fn "<lambda>" lamQ params body scope (cloFrom X.env.cells scope.names []) pm (.ref c') ctv) ⟨[u], []⟩ = pure [(a, u)])
    (hr : Room (k + 1) (X.A.deeper (envOfC qg sg s.heap.objs.size g cdg))) (hN : Ng[j]? = some x) (hv : Vis sg x) (hx : δ[j]?.bind Sl.val = some (.fnc f c'))
    (h : DA (cxOf (L2.CX X.prog X.w) X.prog X.w X.K X.mg X.base Ng qg sg g cdg X.A X.stack s H Eg) [arg] δ (ActD X body scope f c' k a b n Φ))
    (h1 : (x == ("__debug__" : Str)) = false := by decide) (h2 : (x == ("__classdict__" : Str)) = false := by decide)
    (he : starEach [arg] (envOfC qg sg s.heap.objs.size g cdg) = (false, eval arg (envOfC qg sg s.heap.objs.size g cdg)) :: starEach [] (envOfC qg sg s.heap.objs.size g cdg) := by rfl) :
    DE (cxOf (L2.CX X.prog X.w) X.prog X.w X.K X.mg X.base Ng qg sg g cdg X.A X.stack s H Eg) (.Call (.Name x p1) [arg] [] p2) δ Φ := fun σZ HZ Q en kk pinsZ sZ IZ => by
  refine wpAny_Call_Name_kw (thn (de_var (X := cxOf (L2.CX X.prog X.w) X.prog X.w X.K X.mg X.base Ng qg sg g cdg X.A X.stack s H Eg) (Φ := fun d => d = .fnc f c') j hN hv hx rfl h1 h2 σZ HZ (fun v H1 => Kp X.K HZ H1 ∧ Dat X.K H1 v (.fnc f c')) en (fun d v H1 p k1 d1 => ⟨k1, by rw [p] at d1; exact d1⟩) pinsZ sZ IZ) fun u s1 ⟨v, H1, I1, r1, k1, d1⟩ => ?_)
  obtain ⟨rfl, hco⟩ : v = .ref f ∧ H1 c' = some (LamX.CodeO c' lamQ) := by
    cases d1 with
    | fnc q => exact ⟨rfl, q⟩
  obtain rfl : u = Value.ref f := r1
  have of1 := I1.base.keep f _ hf hfn hfr (List.not_mem_nil)
  refine PySem.W.callWith_F (first := []) ⟨_, _, _, _, of1⟩ ?_ he rfl
  refine thn (h σZ H1 (fun vs H2 => ∃ ds, ActD X body scope f c' k a b n Φ ds ∧ Kp X.K H1 H2 ∧ DatL X.K H2 vs ds) (en.keep k1) (fun ds vs H2 p k2 d2 => ⟨ds, p, k2, d2⟩) p2 pinsZ s1 I1) fun us s2 hq => ?_
  · obtain ⟨vs, H2, I2, rr, ds, ⟨d, ed, hb⟩, k2, dl⟩ := hq
    subst ed
    obtain ⟨v2, rfl, d2⟩ : ∃ v2, vs = [v2] ∧ Dat X.K H2 v2 d := by
      cases dl with
      | cons q1 q2 =>
        cases q2
        exact ⟨_, rfl, q1⟩
    obtain ⟨u2, rfl, r2⟩ : ∃ u2, us = [u2] ∧ RelV v2 u2 := by
      cases rr with
      | cons q1 q2 =>
        cases q2
        exact ⟨_, rfl, q1⟩
    have of2 := I2.base.keep f _ hf hfn hfr (List.not_mem_nil)
    refine ⟨⟨_, _, _, _, of2⟩, ?_⟩
    have un : Un (frs X.stack) [] H H2 s.heap s2.heap := I2.base
    obtain ⟨⟨oc, vs, t, hoc, hdc, hvc⟩, _, _⟩ := I2.hok c' _ ((show Kp X.K H1 H2 from k2).st _ _ hco trivial)
    have rc : codeAny (model X.prog X.w) (X.A.deeper (envOfC qg sg s.heap.objs.size g cdg)) (.call (.ref f) ⟨[u2], []⟩) (CR (L2.CX X.prog X.w) (envOfC qg sg s.heap.objs.size g cdg :: X.stack) X.prog X.w H2 s2 Q E0) s2 := by
      refine PySem.W.kla_callFunE hr.depth of2 rfl L.co L.gen rfl ⟨c', oc, vs, t, rfl, hoc, hdc, hvc⟩ ?_
      rw [hbind]
      refine wpAny_pure (wpAny_newFunctionEnv (fun y hy => L.cell y hy) (fun y hy => by rw [List.mem_singleton.mp hy]; exact L.par) (fun h₁ hns hsb => ⟨I2.nolimit.fresh _ hsb, ?_⟩) L.kind)
      have kp : ∀ b o, s2.heap.get? b = some o → h₁.get? b = some o := fun b o e => hsb.extBut b o (Nat.ne_of_lt (Heap.lt_size e)) (Heap.get?_push_of_some _ e)
      have J := lm_start (f := f) (c' := c') (tk := s2.toks + ([(a, u2)] : List (Str × Value)).length) I L hi hz r2 I2.env0 hr.hd un hns kp
      have enL : Ek X.K H2 [some v2, some (.int n)] [.v d, .v (.int n)] := by
        refine ⟨((en.keep k1).keep k2).1, rfl, fun q sl e => ?_⟩
        match q with
        | 0 => cases e; exact ⟨_, rfl, v2, rfl, d2⟩
        | 1 => cases e; exact ⟨_, rfl, _, rfl, .int n⟩
        | q + 2 => cases e
      have run := hb (X.A.deeper (envOfC qg sg s.heap.objs.size g cdg)) (envOfC qg sg s.heap.objs.size g cdg :: X.stack) s2 H2 (hr.deeper _) [some v2, some (.int n)] H2 Q enL (fun d' w H3 p k3 d3 => kk d' w H3 p ((k1.trans k2).trans k3) d3) [] _ J
      refine PySem.W.kla_codeExpr (wpAny_mono run (fun w s' ⟨z, H', J', rz, q⟩ => ?_) fun e s' hq => hq)
      exact ⟨z, H', J'.os, J'.bare, J'.base, J'.hok, rz, q⟩
    refine wpAny_call (codeAny_mono rc fun r s' hq => ?_)
    match r, hq with
    | .error e, hq => exact passL (X := cxOf (L2.CX X.prog X.w) X.prog X.w X.K X.mg X.base Ng qg sg g cdg X.A X.stack s H Eg) pinsZ σZ H2 s2 e s' I2 hq
    | .ok (.ret z), hq => exact I2.after hq
end
end Fr
end
-- FrEnum
section
set_option Elab.async false
set_option linter.all false
set_option maxRecDepth 100000
/-! enumerate of a tuple; < of alike data; sorted. -/
namespace Fr
open PySem PySem.Spec PyProof.Rows L2
/-! ### enumerate(tuple) -/
section
variable {prog : Program} {w : World} {A : Around} {E : Value → Shared → Prop} {s : Shared}
abbrev enO (n : Addr) : Obj := { cls := .type "enumerate", data := .fields #[.none, .bool false, .ref n, rawInt 0, .none, .none] }
set_option maxHeartbeats 1000000 in
theorem enum_meets {v : Value} {o : Obj} {S : Heap → Prop} (B : PySem.Begins v o S) :
    Meets (Builtin.«enumerate.__new__» ⟨[.type "enumerate", v], []⟩) (fun _ R s => S s.heap ∧ R (.ok (.ret (.ref (s.heap.push o).objs.size))) { s with heap := (s.heap.push o).push (enO s.heap.objs.size) }) := by
  refine .of_wp fun prog w A R ⟨hp, gs, dr, tk, os⟩ ⟨h1, goal⟩ => ?_
  have subt := sub_enumerate
  have step : ∀ {A' : Around} {E' : Value → Shared → Prop} {Q' : Value → Shared → Prop}, Q' (.ref hp.objs.size) ⟨hp.push o, gs, dr, tk, os⟩ → wpAny (model prog w) A' (pyIter v) Q' E' ⟨hp, gs, dr, tk, os⟩ := fun q => B.iter _ _ _ _ _ _ h1 q
  wp_walk using step
  refine wpAny_stack_any fun st => wpAny_pure ?_
  split
  · rename_i c _ _ _ _ _
    cases (c == Value.type "enumerate") <;> (wp_walk using step; exact ⟨_, rfl, goal⟩)
  · wp_walk using step
    exact ⟨_, rfl, goal⟩
theorem enum_new {v : Value} {o : Obj} {S : Heap → Prop} {Q : Value → Shared → Prop} (B : PySem.Begins v o S) (h1 : S s.heap)
    (h : ∀ h', IsEnum h' (s.heap.objs.size + 1) s.heap.objs.size 0 .none → h'.get? s.heap.objs.size = some o → (∀ b u, s.heap.get? b = some u → h'.get? b = some u) → Q (.ref (s.heap.objs.size + 1)) { s with heap := h' }) :
    wpAny (model prog w) A (call (.type "enumerate") [v]) Q E s := by
  have z1 : (s.heap.push o).objs.size = s.heap.objs.size + 1 := Heap.size_push ..
  have new : ((s.heap.push o).push (enO s.heap.objs.size)).get? (s.heap.objs.size + 1) = some (enO s.heap.objs.size) := by
    rw [← z1]
    exact Heap.get?_push_size _ rfl
  refine callType_new F.called_enumerate (by decide) (F.typeCall_enumerate_1 _) (F.newCall_enumerate_1 _) (fun x => F.args_object_init_2 x _) F.entry_enumerate_new (enum_meets B) ⟨h1, ?_⟩
  rw [z1]
  exact ⟨⟨_, new, rfl⟩, h _ new (Heap.get?_push_of_some _ (Heap.get?_push_size _ B.free)) fun b u q => Heap.get?_push_of_some _ (Heap.get?_push_of_some _ q)⟩
end
/-- the tuple at a, each item in a new pair -/
def IteT (K : PySem.W.Frag) (a : Addr) : It where
  go := fun i H => ∃ (xs : List V) (x : V), SqT K H a xs ∧ xs[i]? = some x
  yld := fun i H v H' => ∃ T x, v = .ref T ∧ H T = none ∧ H' = upd H T (.tup [.int (i : Nat), x]) ∧ ∀ xs, SqT K H a xs → xs[i]? = some x
  stop := fun i H => ∃ xs : List V, SqT K H a xs ∧ xs.length = i
def EnAt (a e it : Addr) (i : Nat) (h : Heap) : Prop := (∃ old, IsEnum h e it ((i : Nat) : Int) old) ∧ h.IsTupleIter it a i
theorem turn_enT {P : Program} {w : World} {K : PySem.W.Frag} {elts : List Expr} {kk : Nat} {tpos : Pos} {a e it : Addr} (n1 : e ≠ it) (n2 : a ≠ it) (n3 : a ≠ e) : Turn P w K (.Tuple elts kk tpos) (IteT K a) [e, it] e (EnAt a e it) where
  mem := List.mem_cons_self
  obj := fun i h ⟨⟨old, he⟩, o, ho, _, hd⟩ b hb => by
    rcases List.mem_cons.mp hb with z | z
    · exact ⟨_, z ▸ he, fun v q => (by cases q)⟩
    · refine ⟨o, (List.mem_singleton.mp z) ▸ ho, fun v q => ?_⟩
      rw [hd] at q
      cases q
  keep := fun i h h' ⟨⟨old, he⟩, hi⟩ k => ⟨⟨old, k e (List.mem_cons_self) _ he⟩, hi.at fun o q => k it (List.mem_cons_of_mem _ List.mem_cons_self) o q⟩
  item := by
    intro X eP ew eK hc i pins s σ H E I hf ⟨⟨old, he⟩, hit⟩ ⟨xs, x, hq, hx⟩
    subst eP ew eK
    obtain ⟨its, rv, pt, hz⟩ := I.tuple hq
    obtain ⟨u, hu, ru⟩ := rv.get hx
    have lt : i < its.toArray.size := by rw [List.size_toArray]; exact (List.getElem?_eq_some_iff.mp hu).1
    have D := PySem.Draws.tuple (prog := X.prog) (w := X.w) (A := X.A.in1) (I.ok.hd hc) it a n2 its.toArray
    have le := Heap.lt_size he
    have li : it < s.heap.objs.size := by obtain ⟨_, q, _⟩ := hit; exact Heap.lt_size q
    refine wpAny_pyNext_enum_itemD D he ⟨hit, pt⟩ lt n1 (fun hm => ?_) fun u' h' tk hP ho ⟨hit', _⟩ hT hsz hk => ?_
    · rcases List.mem_cons.mp hm with z | z
      · exact n1 z
      · exact n3 (List.mem_singleton.mp z).symm
    · obtain rfl : u' = u := by
        have q : its.toArray[i]? = some u' := hP
        rw [List.getElem?_toArray, hu] at q
        exact (Option.some.inj q).symm
      refine ⟨_, rfl, wpAny_letOwnedTupleGo_enum (s := { s with heap := h', toks := tk + 1 }) ho fun h2 he2 sb => ?_⟩
      have hT2 : h2.get? s.heap.objs.size = some { cls := .type "tuple", data := .seq #[.int i tk, u'] } := (sb.2 _ (Nat.ne_of_gt le)).trans hT
      have pair : ObjOk X.prog X.w (upd H s.heap.objs.size (.tup [.int (i : Nat), x])) h2 s.heap.objs.size (.tup [.int (i : Nat), x]) := ⟨show 2 ≤ sizeLine by decide, [.int i tk, u'], .cons ⟨_, rfl⟩ (.cons ru .nil), ⟨_, hT2, rfl, _, rfl⟩⟩
      have old2 : ∀ b o, b ∉ [e, it] → s.heap.get? b = some o → h2.get? b = some o := fun b o hb q => by
        have b1 : b ≠ e := fun z => hb (z ▸ List.mem_cons_self)
        have b2 : b ≠ it := fun z => hb (z ▸ List.mem_cons_of_mem _ List.mem_cons_self)
        exact (sb.2 b b1).trans (hk b o b1 b2 q)
      refine ⟨.ref s.heap.objs.size, _, I.turnedNew (t' := tk + 1) (ch := [e, it]) old2 hf (Nat.le_refl _) pair, rfl, ⟨_, x, rfl, I.hok.fresh (Nat.le_refl _), rfl, fun ys hy => by rw [I.tuple_inj hy hq]; exact hx⟩, ⟨⟨u', ?_⟩, hit'.at fun o q => (sb.2 it (Ne.symm n1)).trans q⟩, fun b hb => ?_⟩
      · rw [show ((i + 1 : Nat) : Int) = (i : Int) + 1 from rfl]
        exact he2
      · rw [upd_ne (show b ≠ s.heap.objs.size from ?_)]
        · exact (hf b hb).1
        · rcases List.mem_cons.mp hb with z | z
          · rw [z]; exact Nat.ne_of_lt le
          · rw [List.mem_singleton.mp z]; exact Nat.ne_of_lt li
  done := by
    intro X eP ew eK hc i pins s σ H E I hf ⟨⟨old, he⟩, hit⟩ ⟨xs, hq, hx⟩
    subst eP ew eK
    obtain ⟨its, rv, pt, hz⟩ := I.tuple hq
    have D := PySem.Draws.tuple (prog := X.prog) (w := X.w) (A := X.A.in1) (I.ok.hd hc) it a n2 its.toArray
    have ei : i = its.toArray.size := by rw [← hx, List.size_toArray, rv.length]
    obtain ⟨f0, f1, f2, f3, f4, f5⟩ := hf it (List.mem_cons_of_mem _ List.mem_cons_self)
    exact wpAny_pyNext_enum_endD D he ⟨ei ▸ hit, pt⟩ fun h' eb => ⟨rfl, I.turned (t' := s.toks) (fun b o hb q => eb b o hb q) f0 f1 f3 f4 f5⟩
  self := fun A i s Q E ⟨⟨_, he⟩, _⟩ q => wpAny_pyIter_enum he q
def iEnT (K : PySem.W.Frag) (ta : TA) : TI := fun σ H R => ta σ H fun vs H1 => ∃ a xs, vs = [.ref a] ∧ SqT K H1 a xs ∧ R (IteT K a) H1
theorem pi_enT {X : Cx} {e : Expr} {ta : TA} {p pos tpos : Pos} {elts : List Expr} {kk : Nat} (hg : Gl X "enumerate") (hm : X.mg "enumerate" = none) (ha : PA X [e] ta) (hs : starEach [e] X.env = [(false, eval e X.env)] := by rfl) :
    PI X (.Tuple elts kk tpos) (.Call (.Name "enumerate" p) [e] [] pos) (iEnT X.K ta) := ⟨fun pins s σ H R I h => Call_ (ld_blt I hg hm boot_enumerate (PyProof.Rows.callWith_type1 (thn (ha.run pos pins s σ H _ I h) fun us s1 ⟨vs, H1, I1, r1, a, xs, ex, hq, q⟩ => by
  subst ex
  obtain rfl := Vals.ref1 r1
  obtain ⟨its, rv, pt, hz⟩ := I1.tuple hq
  have la : a < s1.heap.objs.size := by obtain ⟨_, z, _⟩ := pt; exact Heap.lt_size z
  refine enum_new (PySem.begins_tuple a its.toArray) pt fun h' he hit hk => wpAny_pyIter_enum he ?_
  refine ⟨s1.heap.objs.size + 1, [s1.heap.objs.size + 1, s1.heap.objs.size], _, _, H1, rfl, I1.kept (t' := s1.toks) hk, turn_enT (Nat.succ_ne_self _) (Nat.ne_of_lt la) (Nat.ne_of_lt (Nat.lt_succ_of_lt la)), ⟨⟨.none, he⟩, ⟨_, hit, rfl, rfl⟩⟩, fun b hb => ?_, q⟩
  have big : s1.heap.objs.size ≤ b := by
    rcases List.mem_cons.mp hb with z | z
    · rw [z]; exact Nat.le_succ _
    · rw [List.mem_singleton.mp z]; exact Nat.le_refl _
  exact I1.fpOk big (I1.hok.fresh big)) hs rfl))⟩
theorem walk_enT {K : PySem.W.Frag} {a : Addr} {xs : List V} : Walk (IteT K a) xs.length (fun H => SqT K H a xs) (YPair (fun i => some (.int (i : Nat))) (fun i => xs[i]?)) where
  goes := fun i H hi q => ⟨xs, xs[i], q, List.getElem?_eq_getElem hi⟩
  stops := fun H q => ⟨xs, q, rfl⟩
  yields := fun i H v H' hi q ⟨T, x, e1, e2, e3, e4⟩ => ⟨T, .int (i : Nat), x, e1, e2, e3, rfl, e4 xs q⟩
section
variable {X : Cx} {δ : List Sl} {Δ : DEnds} {e : Expr} {body : List Stmt} {pos p q t p2 p3 : Pos} {x y : Str} {n : Nat}
/-- for k, v in enumerate(e), e a tuple -/
theorem ds_forEn (i j : Nat) (hc : X.calm = true) (hp : PassesOwn (model X.prog X.w) X.A X.env X.xe) (hN : X.N.Nodup) (hi : X.N[i]? = some x) (hj : X.N[j]? = some y) (hx : Loc X.env.scope x) (hy : Loc X.env.scope y) (hg : Gl X "enumerate") (hm : X.mg "enumerate" = none)
    (h : DE X e δ fun d => ∃ l, d = .tup l ∧ ∃ I : Nat → List Sl → Prop, (∀ m δ', I m δ' → vO δ' = true) ∧ I 0 (unb δ) ∧ (∀ m z δ', l[m]? = some z → I m δ' → DSs X body ((δ'.set i (.v (.int m))).set j (.v z)) { nx := I (m + 1), ct := I (m + 1), rt := Δ.rt, ex := Δ.ex }) ∧ ∀ δ', I l.length δ' → Δ.nx δ')
    (hf : X.fn x = true ∨ X.env.scope.names.lookup x = some .local := by first | exact .inl rfl | exact .inr rfl) (hf2 : X.fn y = true ∨ X.env.scope.names.lookup y = some .local := by first | exact .inl rfl | exact .inr rfl)
    (hs : ∀ z, foldedSetIterable (.Call (.Name "enumerate" p2) [e] [] p3) X.env z = pure z := by intro _; rfl) (he : starEach [e] X.env = [(false, eval e X.env)] := by rfl) :
    DS X (.For (.Tuple [.Name x p, .Name y q] n t) (.Call (.Name "enumerate" p2) [e] [] p3) body [] pos) δ Δ :=
  .of (ps_for hp hc (pi_enT hg hm (pa_cons pe_E pa_nil he) he) (pg_tup hc (pgs_cons (pg_name hN hi hx hf) (pgs_cons (pg_name hN hj hy hf2) pgs_nil))) pss_S hs) fun H0 σ H Dn W tk s k => h σ H _ s.en fun d v H1 ⟨l, ed, I, hv, h0, hs, hd⟩ kp hd1 => by
    subst ed
    cases hd1 with
    | @tup a xs _ hh hl =>
      refine ⟨a, xs, rfl, hh, for_it (walk_enT (xs := xs)) (fun m σ' H' => ∃ δ', I m δ' ∧ SOk X.K H0 H' σ' δ' ∧ SqT X.K H' a xs ∧ DatL X.K H' xs l) ⟨_, h0, (s.keep kp).unb, hh, hl⟩ (fun m σ' H' _ ⟨_, _, _, z, _⟩ => z) (fun m v σ' H' H2 hlt ⟨δ', hI, s', z1, z2⟩ ⟨T, a1, b1, ev, hT, eH, ea, eb⟩ => ?_) fun σ' H' ⟨δ', hI, s', _, _⟩ => ?_⟩
      · cases ea
        subst ev eH
        obtain ⟨d', e1, e2⟩ := z2.getV eb
        have kn : Kp X.K H' (upd H' T (.tup [.int (m : Nat), b1])) := Kp.new hT
        have s1 := s'.keep kn
        have s2 := (s1.set i (.int (m : Nat))).set j (e2.keep kn)
        have kk := s1.kp
        have vo : vO ((δ'.set i (.v (.int m))).set j (.v d')) = true := vO_set (vO_set (hv m δ' hI) i) j
        refine ⟨T, _, rfl, .inl (.inl upd_same), rfl, _, _, rfl, _, _, rfl, rfl, ?_⟩
        have z1' := sqT_keep kn z1
        have z2' := z2.keep kn
        exact hs m d' δ' e1 hI _ _ _ _ W tk (.vO (Kp.refl _ _) s2.en vo) ⟨fun δ3 σ3 H3 p3 s3 => ⟨δ3, p3, .vO (kk.trans s3.kp) s3.en (hv _ _ p3), sqT_keep s3.kp z1', z2'.keep s3.kp⟩, fun d3 v3 H3 p3 k3 => k.rt d3 v3 H3 p3 (kk.trans k3), fun _ _ _ p3 => p3.elim,
          fun δ3 σ3 H3 p3 s3 => ⟨δ3, p3, .vO (kk.trans s3.kp) s3.en (hv _ _ p3), sqT_keep s3.kp z1', z2'.keep s3.kp⟩, fun c ds dx fs σ3 H3 p3 k3 => k.ex c ds dx fs σ3 H3 p3 (kk.trans k3)⟩
      · rw [hl.length] at hI
        exact k.nx _ _ H' (hd δ' hI) s'
end
/-! ### < of alike data -/
def ltD (x y : D) : Bool := PySem.W.dataLt x.py y.py
def alikeD (x y : D) : Bool := PySem.W.alike x.py y.py
section
variable {X : Cx} {Φ : D → Prop}
def rLtD (K : PySem.W.Frag) : R2 := fun x y H Q => ∃ d e, Dp K H x d ∧ Dp K H y e ∧ PySem.W.alike d e = true ∧ d ≠ .none ∧ d.depth ≤ 60 ∧ Q (.bl (PySem.W.dataLt d e)) H
theorem op_ltD (hu : X.A.units + 65 < cLine) : OpR X (compareOp .Lt) (rLtD X.K) := fun pins s σ H x y v u Q I rx ry ⟨d, e, hd, he, al, nn, dp, q⟩ => by
  obtain ⟨as, r1⟩ := Dp.reads I d x v hd rx
  obtain ⟨bs, r2⟩ := Dp.reads I e y u he ry
  exact PySem.W.rcLt_alike d e X.A s v u as bs r1 r2 al nn (by have := Nat.min_le_left d.depth e.depth; omega) X.prog X.w X.xe _ ⟨.bl _, H, I, rfl, q⟩
theorem od_ltD {x y : D} (n : Nat) (h1 : x.ok n = true) (h2 : y.pl = true) (hn : n ≤ 60) (al : alikeD x y = true) (nn : x ≠ .non) (h : Φ (.bl (ltD x y))) : OD X (rLtD X.K) x y Φ := fun H v w Q d1 d2 k =>
  ⟨_, _, dp_of d1 (D.ok_pl h1), dp_of d2 h2, al, fun z => nn (by cases x <;> first | rfl | (rw [D.py] at z; cases z)), Nat.le_trans (D.ok_lay h1).2 hn, k _ _ H h (Kp.refl _ _) (.bl _)⟩
end
end Fr
end
-- FrP4
section
set_option Elab.async false
set_option linter.all false
set_option maxRecDepth 100000
/-! The walks: _first_fault with a lambda, SumsPaper.__init__. -/
namespace Fr
open PySem PySem.Spec PyProof.Rows L2
-- macros
local macro_rules | `(tactic| walk_at "side") => `(tactic| first | assumption | omega | rfl | decide)
local macro_rules | `(tactic| walk_at "cm") => `(tactic| first | exact .inl ⟨by omega, by omega⟩ | exact .inr ⟨by omega, by omega⟩)
local macro_rules | `(tactic| walk_at "len") => `(tactic| first | decide | (show _ ≤ sizeLine; simp only [List.length_cons, List.length_nil]; decide))
local macro_rules | `(tactic| walk_at "add") => `(tactic| first | refine od_addI ?_ | refine od_addT (by walk_at "side") ?_ | refine od_addL (by walk_at "side") ?_)
local macro_rules | `(tactic| walk_at "mul") => `(tactic| first | refine od_mulI (by walk_at "cm") ?_ | refine od_mulT (by walk_at "side") (by walk_at "side") (by walk_at "side") ?_)
local macro_rules | `(tactic| walk_at "ok") => `(tactic| first | assumption | (simp only [D.ok, okL, Bool.and_true, Bool.true_and]; first | done | assumption | decide))
local macro_rules | `(tactic| walk_at "eq") => `(tactic| first | refine od_eqII ?_ | refine od_eq 20 20 (by walk_at "ok") (by walk_at "ok") (by omega) ?_)
local macro_rules | `(tactic| walk_at "ne") => `(tactic| first | refine od_neII ?_ | refine od_ne 20 20 (by walk_at "ok") (by walk_at "ok") (by omega) ?_)
local macro_rules | `(tactic| walk_at "slice") => `(tactic| first | refine .inl ⟨_, rfl, ?_⟩ | refine .inr ⟨_, rfl, ?_⟩)
local macro_rules | `(tactic| walk_at "vis") => `(tactic| first | exact .inl rfl | exact .inr (.inl rfl) | exact .inr (.inr rfl))
local macro_rules | `(tactic| walk_at "loc") => `(tactic| first | exact .inl rfl | exact .inr rfl)
local macro_rules | `(tactic| walk_at "locf") => `(tactic| first | exact .inr rfl | exact .inl rfl)
-- end macros
/-- the number of the first that does not fit or is not after the one before it -/
def ffN (fit : D → Bool) : Option D → Nat → List D → Option Nat
  | _, _, [] => none
  | p, k, d :: l => if (fit d && (match p with | some x => ltD x d | none => true)) = true then ffN fit (some d) (k + 1) l else some k
def ffD (fit : D → Bool) : D → D
  | .tup l => (match ffN fit none 0 l with | some k => .int k | none => .non)
  | _ => .int 0
def ffP (l : List D) (j : Nat) : Option D := if j = 0 then none else l[j - 1]?
theorem ffN_turn {fit : D → Bool} {l : List D} {j : Nat} {z : D} (hz : l[j]? = some z) : ffN fit (ffP l j) j (l.drop j) = if (fit z && (match ffP l j with | some x => ltD x z | none => true)) = true then ffN fit (ffP l (j + 1)) (j + 1) (l.drop (j + 1)) else some j := by
  have e : l.drop j = z :: l.drop (j + 1) := by
    obtain ⟨h, e⟩ := List.getElem?_eq_some_iff.mp hz
    rw [← e]
    exact List.drop_eq_getElem_cons h
  have e2 : ffP l (j + 1) = some z := by
    unfold ffP
    rw [if_neg (Nat.succ_ne_zero j)]
    exact hz
  rw [e, e2]
  rfl
section
variable {P : Program} {w : World} {K : PySem.W.Frag} {mg : Str → Option Value} {base : Heap}
abbrev Nff : List Str := ["values", "fits", "k", "value"]
theorem sc_ff : FnScope Nff ["values", "fits"] (defScope s_first_fault) := ⟨rfl, rfl, rfl, by decide +kernel, rfl, by decide +kernel, by decide +kernel⟩
theorem ff_body (T : Tx K mg base) {A : Around} {outer : List PySem.Env} {s : Shared} {H : Hp} {E : XK} {cdv : Value} {f c' : Addr} {fit : D → Bool} {d : D} (hr : Room 10 (A.deeper (envOfC "_first_fault" (defScope s_first_fault) s.heap.objs.size (He.ga K "_first_fault") cdv)))
    (hd : d.ok 9 = true) (hal : ∀ x y, fit x = true → fit y = true → alikeD x y = true ∧ x ≠ .non)
    (hfits : ∀ (δ : List Sl) z (p1 p2 p3 : Pos), z.ok 9 = true → δ[1]?.bind Sl.val = some (.fnc f c') → δ[3]?.bind Sl.val = some z → DE (bcx P w K mg base Nff "_first_fault" (defScope s_first_fault) (He.ga K "_first_fault") cdv A outer s H E) (.Call (.Name "fits" p1) [.Name "value" p2] [] p3) δ fun r => r = .bl (fit z))
    {Δ : DEnds} (hΔ : Δ.rt (ffD fit d)) : DSs (bcx P w K mg base Nff "_first_fault" (defScope s_first_fault) (He.ga K "_first_fault") cdv A outer s H E) (defBody s_first_fault) (startD Nff [d, .fnc f c']) Δ := by
  have sc := sc_ff
  refine dss_cons (ds_if ?_)
  refine dt_not ?_
  refine dt_val (by intro _; rfl) ?_
  refine de_isT rfl (b_isinstance T) (by decide +kernel) rfl (b_tuple T) (by decide +kernel) kit_tup ?_
  refine de_var 0 rfl (.inl rfl) rfl ?_
  refine ⟨D.ok_obj hd, isBl_of ⟨fun hb => ?_, fun hb => ?_⟩⟩
  · refine dss_one (ds_ret ?_)
    refine de_int ?_
    cases d <;> first | exact hΔ | cases hb
  · obtain ⟨l, rfl⟩ : ∃ l, d = .tup l := by cases d <;> first | exact ⟨_, rfl⟩ | cases hb
    have hl : okL l 8 = true := by rw [← ok_tup]; exact hd
    refine dss_nil ?_
    refine dss_cons (ds_forEn 2 3 rfl (passes_of rfl) sc.nd rfl rfl (.inl rfl) (.inl rfl) rfl (b_enumerate T) ?_)
    refine de_var 0 rfl (.inl rfl) rfl ?_
    refine ⟨l, rfl, fun j δ' => ∃ z2 z3, δ' = [.v (.tup l), .v (.fnc f c'), z2, z3] ∧ vO [z2, z3] = true ∧ (∀ x, ffP l j = some x → fit x = true) ∧ ffN fit none 0 l = ffN fit (ffP l j) j (l.drop j), fun j δ' ⟨z2, z3, e, h, _⟩ => by rw [e]; exact h, ⟨.no, .no, rfl, rfl, fun x h => (by cases h), rfl⟩, fun j z δ' hz ⟨z2, z3, e, hv, hp, hf⟩ => ?_, fun δ' ⟨z2, z3, e, hv, hp, hf⟩ => ?_⟩
    · subst e
      have zok : z.ok 8 = true := okL_iff.mp hl z (List.mem_of_getElem? hz)
      rw [ffN_turn hz] at hf
      have out : (fit z && (match ffP l j with | some x => ltD x z | none => true)) = false → Δ.rt (.int j) := fun h => by
        rw [h, if_neg Bool.false_ne_true] at hf
        have : ffD fit (.tup l) = .int j := by
          show (match ffN fit none 0 l with | some k => D.int k | none => .non) = _
          rw [hf]
        rw [← this]
        exact hΔ
      have next : (fit z && (match ffP l j with | some x => ltD x z | none => true)) = true → ∃ y2 y3, [Sl.v (.tup l), .v (.fnc f c'), .v (.int j), .v z] = [.v (.tup l), .v (.fnc f c'), y2, y3] ∧ vO [y2, y3] = true ∧ (∀ x, ffP l (j + 1) = some x → fit x = true) ∧ ffN fit none 0 l = ffN fit (ffP l (j + 1)) (j + 1) (l.drop (j + 1)) := fun h => by
        refine ⟨_, _, rfl, rfl, fun x hx => ?_, ?_⟩
        · unfold ffP at hx
          rw [if_neg (Nat.succ_ne_zero j), Nat.add_sub_cancel, hz] at hx
          cases hx
          exact (Bool.and_eq_true_iff.mp h).1
        · rw [hf, if_pos h]
      refine dss_one (ds_if (DT.imp (Φ := fun b => b = !(fit z && (match ffP l j with | some x => ltD x z | none => true))) ?test fun b hb => ⟨fun h => ?ret, fun h => ?go⟩))
      case ret =>
        refine dss_one (ds_ret ?_)
        refine de_var 2 rfl (.inl rfl) rfl ?_
        refine out ?_
        rw [hb, Bool.not_eq_true'] at h
        exact h
      case go =>
        refine dss_nil (next ?_)
        rw [hb, Bool.not_eq_false'] at h
        exact h
      refine dt_W ?_
      refine dw_or ?_
      refine dt_not ?_
      refine dt_val (by intro _; rfl) ?_
      refine (hfits _ z _ _ _ (D.ok_mono zok (by omega)) rfl rfl).imp fun r er => ?_
      subst er
      refine isBl_of ⟨fun hb => ?_, fun hb => ?_⟩
      · rw [Bool.not_eq_true'] at hb
        rw [hb]
        rfl
      rw [Bool.not_eq_false'] at hb
      rw [hb, Bool.true_and]
      refine dw_one_or ?_
      refine dt_W ?_
      refine dw_and ?_
      refine dt_cmpO op_gt rfl ?_
      refine de_var 2 rfl (.inl rfl) rfl ?_
      refine de_int ?_
      refine od_gtI ?_
      refine isBl_of ?_
      refine ⟨fun hb2 => ?_, fun hb2 => ?_⟩
      · have j0 : 0 < j := by have := of_decide_eq_true hb2; omega
        have jl : j < l.length := (List.getElem?_eq_some_iff.mp hz).1
        obtain ⟨x, hx⟩ : ∃ x, l[j - 1]? = some x := ⟨_, List.getElem?_eq_getElem (by omega)⟩
        have ex : ffP l j = some x := by
          unfold ffP
          rw [if_neg (by omega)]
          exact hx
        rw [ex]
        obtain ⟨al, nn⟩ := hal x z (hp x ex) hb
        refine dw_one_and ?_
        refine dt_not ?_
        refine dt_cmpO (op_ltD (show (A.deeper _).units + 65 < cLine from by have := hr.un; omega)) rfl ?_
        refine de_ix ?_
        refine de_var 0 rfl (.inl rfl) rfl ?_
        refine de_op op_sub ?_
        refine de_var 2 rfl (.inl rfl) rfl ?_
        refine de_int ?_
        refine od_subI ?_
        refine ⟨l, _, x, .inl rfl, rfl, atI_nat (by omega) (by rw [show ((j : Int) - 1).toNat = j - 1 by omega]; exact hx), ?_⟩
        refine de_var 3 rfl (.inl rfl) rfl ?_
        refine od_ltD 8 (okL_iff.mp hl x (List.mem_of_getElem? hx)) (D.ok_pl zok) (by omega) al nn ?_
        exact isBl_of rfl
      · have j0 : j = 0 := by have := of_decide_eq_false hb2; omega
        subst j0
        rfl
    · subst e
      refine dss_one (ds_ret ?_)
      refine de_non ?_
      have : ffD fit (.tup l) = .non := by
        show (match ffN fit none 0 l with | some k => D.int k | none => .non) = _
        rw [hf, List.drop_length]
        rfl
      rw [← this]
      exact hΔ
end
/-- _first_fault(a, lambda value: .. n ..) -/
theorem de_ff {X : Cx} (T : Tx X.K X.mg X.base) {a : Expr} {params : Arguments} {body : Expr} {scope : Scope} {lpos p pos : Pos} {i : Nat} {n : Int} {c : Addr} {fit : D → Bool} {δ : List Sl} {Φ : D → Prop} (hg : Gl X "_first_fault") (hr : Room 11 X.A) (TB : LamX.TabB X.base X.mg c (ltab X.K)) (hcode : X.env.code = .ref c)
    (hq : X.env.qual ++ "<lambda>" = lamQ) (L : LamP X.env.scope scope "value" "n") (hi : X.N[i]? = some "n") (hn : δ[i]? = some (.v (.int n))) (hdef : defaultsOf params X.env = ([], []))
    (hbind : ∀ cl pm cv ctv u, bindArgs (PySem.W.kla_fn "<lambda>" lamQ params body scope cl pm cv ctv) ⟨[u], []⟩ = pure [(("value" : Str), u)]) (hal : ∀ x y, fit x = true → fit y = true → alikeD x y = true ∧ x ≠ .non)
    (hfit : ∀ (d : D) (A : Around) (outer : List PySem.Env) (s' : Shared) (H' : Hp) (f c' : Addr), d.ok 9 = true → Room 9 (A.deeper (lmEnv X scope s'.heap.objs.size f c')) → DE (lmCx X ["value", "n"] A outer s' H' scope f c') body [.v d, .v (.int n)] fun r => r = .bl (fit d))
    (h : DE X a δ fun d => d.ok 9 = true ∧ Φ (ffD fit d)) (hs : starEach [a, .Lambda params body scope lpos] X.env = (false, eval a X.env) :: starEach [.Lambda params body scope lpos] X.env := by rfl) :
    DE X (.Call (.Name "_first_fault" p) [a, .Lambda params body scope lpos] [] pos) δ Φ := fun σ H Q en kk pins s I => by
  obtain ⟨fd, F⟩ := T.d.def_ 22 (d := d_first_fault) rfl
  have hkp := F.kp
  have hbd : Binds X.K fd ["values", "fits"] [] := F.bindsN fun _ _ _ _ _ _ us hl => match us, hl with | [_, _], _ => rfl
  obtain ⟨oc, od, dV, kV, doc, pm0, an, cdv, ct, osl, rfl, lk, hcd, _, _⟩ := F.ex
  have hne : ∀ P ∈ gtab X.K, P ≠ ltab X.K := fun P hP => by
    obtain ⟨q, hq1, hq2⟩ := List.mem_map.mp hP
    rw [← hq2]
    have m := T.m
    unfold moreB at m
    exact of_decide_eq_true (List.all_eq_true.mp (Bool.and_eq_true_iff.mp m).2 _ hq1)
  refine wpAny_Call_Name_kw (ld_glob I hg (T.glo 22 rfl) ?_)
  refine PySem.W.callWith_K (h₀ := X.base) (first := []) I.ok.mod.kin hkp ?_ hs rfl
  rw [hs]
  show wpAny _ _ (spliced ((false, if false = true then _ else eval a X.env) :: (false, eval (.Lambda params body scope lpos) X.env) :: [])) _ _ _
  rw [if_neg Bool.false_ne_true]
  refine Calls.spliced_cons (thn (h σ H (fun v H1 => ∃ d, (d.ok 9 = true ∧ Φ (ffD fit d)) ∧ Kp X.K H H1 ∧ Dat X.K H1 v d) en (fun d v H1 p k1 d1 => ⟨d, p, k1, d1⟩) pins s I) fun u1 s1 ⟨v1, H1, I1, r1, d, ⟨dok, hΦ⟩, k1, d1⟩ => ?_)
  refine Calls.spliced_cons (lam_made I1 (en.keep k1).1 hne TB hcode hq hdef (L.has I1.ok) fun f c' pm ctv H2 s2 I2 k2 hf hfn hfr hco => ?_)
  refine Calls.spliced_nil ⟨I2.kIn, ?_⟩
  obtain ⟨o, eo, vn, en2, dn⟩ := en.2.2 i _ hn
  cases dn
  subst en2
  have rc : codeAny (model X.prog X.w) X.A (.call (.ref (He.ga X.K "_first_fault")) ⟨[u1, .ref f], []⟩) (CR (L2.CX X.prog X.w) X.stack X.prog X.w H2 s2 Q E0) s2 := by
    refine LamX.run_ofS (N := Nff) (ps := ["values", "fits"]) (us := [u1, .ref f]) (vs := [v1, .ref f]) lk hcd sc_ff hr I2.env0 (by have q := hbd s2 [u1, .ref f] I2.kIn rfl; rw [List.append_nil] at q; exact q) (.cons r1 (.cons rfl .nil)) rfl fun hr' => ?_
    refine ⟨tSs _ (defBody s_first_fault), pss_S, ?_⟩
    refine ff_body (P := X.prog) (w := X.w) T (f := f) (c' := c') (fit := fit) (d := d) (Δ := { nx := fun _ => False, rt := fun z => z = ffD fit d }) hr' dok hal (fun δ z p1 p2 p3 hz e1 e3 => ?_) rfl H2 _ H2 _ (fun _ _ _ _ => False) LamX.takes0 (start_ok (k2.tb (en.keep k1).1) (.cons (d1.keep k2) (.cons (.fnc hco) .nil))) ⟨fun _ _ _ p => p.elim, fun d' v' H' p kp hd => ?_, fun _ _ _ p => p.elim, fun _ _ _ p => p.elim, fun _ _ _ _ _ _ p => p.elim⟩
    · refine de_act (k := 9) (j := 1) I2 L hi eo hf hfn hfr (fun u => hbind _ _ _ _ u) hr' rfl (.inl rfl) e1 ?_
      refine da_cons ?_
      refine de_var 3 rfl (.inl rfl) e3 ?_
      exact da_nil ⟨z, rfl, fun A outer s' H' hr2 => hfit z A outer s' H' f c' hz hr2⟩
    · subst p
      exact kk _ v' H' hΦ ((k1.trans k2).trans kp) hd
  refine wpAny_call (codeAny_mono rc fun r s' hq => ?_)
  match r, hq with
  | .error z, hq => exact passL pins σ H2 s2 z s' I2 hq
  | .ok (.ret z), hq => exact I2.after hq
end Fr
end
-- FrP5
section
set_option Elab.async false
set_option linter.all false
set_option maxRecDepth 100000
/-! The walks: SumsPaper.__init__. -/
namespace Fr
open PySem PySem.Spec PyProof.Rows L2
-- macros
local macro_rules | `(tactic| walk_at "side") => `(tactic| first | assumption | omega | rfl | decide)
local macro_rules | `(tactic| walk_at "cm") => `(tactic| first | exact .inl ⟨by omega, by omega⟩ | exact .inr ⟨by omega, by omega⟩)
local macro_rules | `(tactic| walk_at "len") => `(tactic| first | decide | (show _ ≤ sizeLine; simp only [List.length_cons, List.length_nil]; decide))
local macro_rules | `(tactic| walk_at "add") => `(tactic| first | refine od_addI ?_ | refine od_addT (by walk_at "side") ?_ | refine od_addL (by walk_at "side") ?_)
local macro_rules | `(tactic| walk_at "mul") => `(tactic| first | refine od_mulI (by walk_at "cm") ?_ | refine od_mulT (by walk_at "side") (by walk_at "side") (by walk_at "side") ?_)
local macro_rules | `(tactic| walk_at "ok") => `(tactic| first | assumption | (simp only [D.ok, okL, Bool.and_true, Bool.true_and]; first | done | assumption | decide))
local macro_rules | `(tactic| walk_at "eq") => `(tactic| first | refine od_eqII ?_ | refine od_eq 20 20 (by walk_at "ok") (by walk_at "ok") (by omega) ?_)
local macro_rules | `(tactic| walk_at "ne") => `(tactic| first | refine od_neII ?_ | refine od_ne 20 20 (by walk_at "ok") (by walk_at "ok") (by omega) ?_)
local macro_rules | `(tactic| walk_at "slice") => `(tactic| first | refine .inl ⟨_, rfl, ?_⟩ | refine .inr ⟨_, rfl, ?_⟩)
local macro_rules | `(tactic| walk_at "vis") => `(tactic| first | exact .inl rfl | exact .inr (.inl rfl) | exact .inr (.inr rfl))
local macro_rules | `(tactic| walk_at "loc") => `(tactic| first | exact .inl rfl | exact .inr rfl)
local macro_rules | `(tactic| walk_at "locf") => `(tactic| first | exact .inr rfl | exact .inl rfl)
-- end macros
/-- the first part of a sums paper that is none, its place -/
def sumFault (w q ws qs : D) : Option (Str × D) :=
  if isSome w = true then if isMat q (lenD w) = true then (match ffD (fun d => isWord d (lenD w)) ws with
    | .non => (match ffD (fun d => isMat d (lenD w)) qs with
      | .non => none
      | k => some ("squares", k))
    | k => some ("words", k)) else some ("square", .int 0) else some ("word", .int 0)
theorem ffD_cases (fit : D → Bool) (d : D) : ffD fit d = .non ∨ ∃ k : Nat, ffD fit d = .int k := by
  cases d with
  | tup l =>
    show (match ffN fit none 0 l with | some k => D.int k | none => .non) = _ ∨ ∃ k : Nat, (match ffN fit none 0 l with | some k => D.int k | none => .non) = _
    cases ffN fit none 0 l with
    | none => exact .inl rfl
    | some k => exact .inr ⟨k, rfl⟩
  | _ => exact .inr ⟨0, rfl⟩
theorem pyL_ints : ∀ l : List Int, pyL (l.map D.int) = l.map PyData.int
  | [] => by rw [List.map_nil, pyL]; rfl
  | x :: l => by rw [List.map_cons, pyL, D.py, pyL_ints l]; rfl
theorem al_wd (l m : List Int) : alikeD (wd l) (wd m) = true := by
  unfold alikeD
  rw [D.py, D.py, PySem.W.alike, pyL_ints, pyL_ints, PySem.W.alike_ints]
theorem al_sqA : ∀ L M : List (List Int), PySem.W.alikeAll (pyL (L.map wd)) (pyL (M.map wd)) = true
  | [], M => by rw [List.map_nil, pyL]; simp [PySem.W.alikeAll]
  | _ :: _, [] => by rw [List.map_nil, List.map_cons, pyL, pyL]; simp [PySem.W.alikeAll]
  | x :: L, y :: M => by
    rw [List.map_cons, List.map_cons, pyL, pyL, PySem.W.alikeAll, al_sqA L M, show PySem.W.alike (wd x).py (wd y).py = true from al_wd x y]
    rfl
theorem al_sq (L M : List (List Int)) : alikeD (sq L) (sq M) = true := by
  unfold alikeD
  rw [D.py, D.py, PySem.W.alike, al_sqA]
theorem al_word {n : Nat} (x y : D) (h1 : isWord x n = true) (h2 : isWord y n = true) : alikeD x y = true ∧ x ≠ .non := by
  obtain ⟨l, rfl, _⟩ := isWord_wd h1
  obtain ⟨m, rfl, _⟩ := isWord_wd h2
  exact ⟨al_wd l m, fun z => by cases z⟩
theorem al_mat {n : Nat} (x y : D) (h1 : isMat x n = true) (h2 : isMat y n = true) : alikeD x y = true ∧ x ≠ .non := by
  obtain ⟨l, rfl, _⟩ := isMat_sq h1
  obtain ⟨m, rfl, _⟩ := isMat_sq h2
  exact ⟨al_sq l m, fun z => by cases z⟩
section
variable {P : Program} {w : World} {K : PySem.W.Frag} {mg : Str → Option Value} {base : Heap}
theorem code_of {K : PySem.W.Frag} {p : Str × Option Str} {x qual : Str} {params : Arguments} {body : List Stmt} {scope : Scope} {dvs : List V} {kws : List (Str × V)} {fd : FuncData} (F : FunD K x qual params body scope dvs kws (He.fAd K p) fd) : fd.code = .ref (He.codeOf K p) := by
  obtain ⟨oc, od, dV, kV, doc, pm, an, cdv, ct, osl, rfl, lk, hcd, _, _⟩ := F.ex
  obtain ⟨c, e⟩ := He.codeIn_ref hcd
  rw [He.codeOf_eq lk e]
  exact e
abbrev Nsi : List Str := ["self", "word", "square", "words", "squares", "n", "fault"]
def sp_SumsI : DSp := fun ds Φ Ψ => ∃ w q ws qs, ds = [w, q, ws, qs] ∧ w.ok 9 = true ∧ q.ok 9 = true ∧ ws.ok 9 = true ∧ qs.ok 9 = true ∧ (∀ p k, sumFault w q ws qs = some (p, k) → Ψ 2 [k, .str p]) ∧ (sumFault w q ws qs = none → Φ (.obj 1 [.int (lenD w), w, q, ws, qs]))
theorem sc_SumsI : FnScope Nsi ["self", "word", "square", "words", "squares"] (defScope s_SumsPaper_init) := ⟨rfl, rfl, rfl, by decide +kernel, rfl, by decide +kernel, by decide +kernel⟩
theorem ok_SumsI (T : Tx K mg base) : ∃ fd, FnOk P w K mg base (L2.CX P w) 12 (He.fAd K ("SumsPaper", some "__init__")) fd ["self", "word", "square", "words", "squares"] (toSpI K 1 sp_SumsI) ∧
    FunD K "__init__" "SumsPaper.__init__" (defArgs s_SumsPaper_init) (defBody s_SumsPaper_init) (defScope s_SumsPaper_init) [] [("words", .ref (kwAt ("SumsPaper", some "__init__") "words" K)), ("squares", .ref (kwAt ("SumsPaper", some "__init__") "squares" K))] (He.fAd K ("SumsPaper", some "__init__")) fd := by
  obtain ⟨fd, F⟩ := T.d.def_ 58 (d := d_SumsPaper_init) rfl
  have sc := sc_SumsI
  have ecd := code_of F
  have TB := T.tb ("SumsPaper", some "__init__") (by decide +kernel)
  refine ⟨fd, ini_ok F sc (fun ds Φ Ψ ⟨_, _, _, _, h, _⟩ => by rw [h] <;> rfl) fun cdv A outer s H E hcd hr a ds Φ Ψ h hc => ?_, F⟩
  obtain ⟨w', q, ws, qs, rfl, hw, hq, hws, hqs, hΨ, hΦ⟩ := h
  have X2 := xi2 (P := P) (w := w) T
  have hc2 : cdv = .ref (He.cT K ("SumsPaper", some "__init__")).1 := hc.symm.trans ecd
  have raise : ∀ (δ : List Sl) (p : Str) (Δ : DEnds) (j1 j2 : Nat) (p1 p2 q1 q2 q3 : Pos), sumFault w' q ws qs = some (p, .int 0) → Δ.ex = Ψ → DSs (bcx P w K mg base Nsi "SumsPaper.__init__" (defScope s_SumsPaper_init) (He.fAd K ("SumsPaper", some "__init__")) cdv A outer s H E)
      [.Raise (some (.Call (.Name "InvalidPaper" p1) [.Constant (.str p) j1 q1, .Constant (.int 0) j2 q2] [] q3)) none p2] δ Δ := fun δ p Δ j1 j2 p1 p2 q1 q2 q3 hp hx => by
    refine dss_one (ds_raise X2 rfl rfl (hr.mono (by decide)) rfl ?_)
    refine da_cons (de_str ?_)
    refine da_cons (de_int ?_)
    refine da_nil ⟨rfl, ?_⟩
    rw [hx]
    exact hΨ p _ hp
  -- word
  refine dss_then (fun δ' => δ' = startI Nsi a 1 [w', q, ws, qs] ∧ isSome w' = true) ?_ fun δ' ⟨e, sw⟩ => ?_
  · refine ds_if (DT.imp (Φ := fun b => b = !isSome w') ?test fun b hb => ⟨fun h => ?ret, fun h => ?go⟩)
    case ret =>
      subst hb
      refine raise _ _ _ _ _ _ _ _ _ _ ?_ rfl
      unfold sumFault
      rw [if_neg (by rw [Bool.not_eq_true'] at h; rw [h]; exact Bool.false_ne_true)]
    case go =>
      subst hb
      exact dss_nil ⟨rfl, by rw [Bool.not_eq_false'] at h; exact h⟩
    refine dt_W ?_
    refine dw_or ?_
    refine dt_not ?_
    refine dt_val (by intro _; rfl) ?_
    refine de_isT rfl (b_isinstance T) (by decide +kernel) rfl (b_tuple T) (by decide +kernel) kit_tup ?_
    refine de_var 1 rfl (.inl rfl) rfl ?_
    refine ⟨D.ok_obj hw, isBl_of ⟨fun hb => ?_, fun hb => ?_⟩⟩
    · cases w' <;> first | rfl | cases hb
    obtain ⟨l, rfl⟩ : ∃ l, w' = .tup l := by cases w' <;> first | exact ⟨_, rfl⟩ | cases hb
    have tail : (decide (1 ≤ (l.length : Int)) && decide ((l.length : Int) ≤ 12)) = false → isSome (.tup l) = false := fun h => by
      unfold isSome
      rw [show lenD (.tup l) = (l.length : Int) from rfl, h, Bool.and_false]
    refine dw_or ?_
    refine dt_not ?_
    refine dt_le3 ?_
    refine de_int ?_
    refine de_callB call_len_seq rfl (b_len T) (by decide +kernel) ?_
    refine da_cons ?_
    refine de_var 1 rfl (.inl rfl) rfl ?_
    refine da_nil ?_
    refine cd_len rfl ?_
    refine ⟨_, _, rfl, rfl, fun hb1 => ?_, fun hb1 => ?_⟩
    · refine de_int ?_
      refine ⟨_, rfl, fun hb2 => ?_, fun hb2 => ?_⟩
      · rw [Bool.not_eq_true'] at hb2
        rw [tail (by rw [hb2, Bool.and_false])]
        rfl
      · refine dw_one_or ?_
        refine dt_not ?_
        refine dt_val (by intro _; rfl) ?_
        refine de_call (ok_is_word T) (hr.mono (by decide)) rfl ?_
        refine da_cons ?_
        refine de_var 1 rfl (.inl rfl) rfl ?_
        refine da_cons ?_
        refine de_callB call_len_seq rfl (b_len T) (by decide +kernel) ?_
        refine da_cons ?_
        refine de_var 1 rfl (.inl rfl) rfl ?_
        refine da_nil ?_
        refine cd_len rfl ?_
        refine da_nil ?_
        refine ⟨_, _, rfl, hw, isBl_of ?_⟩
        unfold isWord
        rw [show lenD (.tup l) = (l.length : Int) from rfl, beq_self_eq_true, Bool.and_true]
    · refine ⟨fun _ => ?_, fun h => (by cases h)⟩
      rw [tail (by rw [decide_eq_false hb1, Bool.false_and])]
      rfl
  subst e
  obtain ⟨l, rfl⟩ := isSome_tup sw
  have hlen : lenD (.tup l) = (l.length : Int) := rfl
  -- n
  refine dss_cons (ds_set 5 sc.nd rfl (.inr rfl) ?_)
  refine de_callB call_len_seq rfl (b_len T) (by decide +kernel) ?_
  refine da_cons ?_
  refine de_var 1 rfl (.inl rfl) rfl ?_
  refine da_nil ?_
  refine cd_len rfl ?_
  -- square
  refine dss_then (fun δ' => δ' = (startI Nsi a 1 [.tup l, q, ws, qs]).set 5 (.v (.int l.length)) ∧ isMat q l.length = true) ?_ fun δ' ⟨e, sm⟩ => ?_
  · refine ds_if ?_
    refine dt_not ?_
    refine dt_val (by intro _; rfl) ?_
    refine de_call (ok_is_square T) (hr.mono (by decide)) rfl ?_
    refine da_cons ?_
    refine de_var 2 rfl (.inl rfl) rfl ?_
    refine da_cons ?_
    refine de_var 5 rfl (.inr (.inl rfl)) rfl ?_
    refine da_nil ?_
    refine ⟨_, _, rfl, hq, isBl_of ⟨fun hb => ?_, fun hb => ?_⟩⟩
    · refine raise _ _ _ _ _ _ _ _ _ _ ?_ rfl
      rw [Bool.not_eq_true'] at hb
      unfold sumFault
      rw [if_pos sw, hlen, if_neg (by rw [hb]; exact Bool.false_ne_true)]
    · rw [Bool.not_eq_false'] at hb
      exact dss_nil ⟨rfl, hb⟩
  subst e
  -- words
  refine dss_cons (ds_set 6 sc.nd rfl (.inl rfl) ?_)
  refine de_ff (n := l.length) (i := 5) (fit := fun d => isWord d l.length) T rfl hr TB hc2 rfl (show LamP (defScope s_SumsPaper_init) _ "value" "n" from ⟨rfl, rfl, rfl, by decide +kernel, rfl, rfl, by decide +kernel⟩) rfl rfl rfl (fun _ _ _ _ _ => rfl) al_word (fun d A outer s' H' f c' hd hr2 => ?_) ?_
  · refine de_call (ok_is_word T) (hr2.mono (by decide)) rfl ?_
    refine da_cons ?_
    refine de_var 0 rfl (.inl rfl) rfl ?_
    refine da_cons ?_
    refine de_var 1 rfl (.inr (.inr rfl)) rfl ?_
    exact da_nil ⟨_, _, rfl, hd, rfl⟩
  refine de_var 3 rfl (.inl rfl) rfl ?_
  refine ⟨hws, ?_⟩
  refine dss_then (fun δ' => δ' = ((startI Nsi a 1 [.tup l, q, ws, qs]).set 5 (.v (.int l.length))).set 6 (.v .non) ∧ ffD (fun d => isWord d l.length) ws = .non) ?_ fun δ' ⟨e, fw⟩ => ?_
  · refine ds_if ?_
    refine dt_notN ?_
    refine de_var 6 rfl (.inl rfl) rfl ?_
    rcases ffD_cases (fun d => isWord d l.length) ws with hf | ⟨k, hf⟩
    · rw [hf]
      exact ⟨fun h => (by cases h), fun _ => dss_nil ⟨rfl, rfl⟩⟩
    · rw [hf]
      refine ⟨fun _ => ?_, fun h => (by cases h)⟩
      refine dss_one (ds_raise X2 rfl rfl (hr.mono (by decide)) rfl ?_)
      refine da_cons (de_str ?_)
      refine da_cons ?_
      refine de_var 6 rfl (.inl rfl) rfl ?_
      refine da_nil ⟨rfl, hΨ "words" (.int k) ?_⟩
      unfold sumFault
      rw [if_pos sw, hlen, if_pos sm, hf]
  subst e
  -- squares
  refine dss_cons (ds_set 6 sc.nd rfl (.inl rfl) ?_)
  refine de_ff (n := l.length) (i := 5) (fit := fun d => isMat d l.length) T rfl hr TB hc2 rfl (show LamP (defScope s_SumsPaper_init) _ "value" "n" from ⟨rfl, rfl, rfl, by decide +kernel, rfl, rfl, by decide +kernel⟩) rfl rfl rfl (fun _ _ _ _ _ => rfl) al_mat (fun d A outer s' H' f c' hd hr2 => ?_) ?_
  · refine de_call (ok_is_square T) hr2 rfl ?_
    refine da_cons ?_
    refine de_var 0 rfl (.inl rfl) rfl ?_
    refine da_cons ?_
    refine de_var 1 rfl (.inr (.inr rfl)) rfl ?_
    exact da_nil ⟨_, _, rfl, hd, rfl⟩
  refine de_var 4 rfl (.inl rfl) rfl ?_
  refine ⟨hqs, ?_⟩
  refine dss_then (fun δ' => δ' = ((startI Nsi a 1 [.tup l, q, ws, qs]).set 5 (.v (.int l.length))).set 6 (.v .non) ∧ ffD (fun d => isMat d l.length) qs = .non) ?_ fun δ' ⟨e, fq⟩ => ?_
  · refine ds_if ?_
    refine dt_notN ?_
    refine de_var 6 rfl (.inl rfl) rfl ?_
    rcases ffD_cases (fun d => isMat d l.length) qs with hf | ⟨k, hf⟩
    · rw [hf]
      exact ⟨fun h => (by cases h), fun _ => dss_nil ⟨rfl, rfl⟩⟩
    · rw [hf]
      refine ⟨fun _ => ?_, fun h => (by cases h)⟩
      refine dss_one (ds_raise X2 rfl rfl (hr.mono (by decide)) rfl ?_)
      refine da_cons (de_str ?_)
      refine da_cons ?_
      refine de_var 6 rfl (.inl rfl) rfl ?_
      refine da_nil ⟨rfl, hΨ "squares" (.int k) ?_⟩
      unfold sumFault
      rw [if_pos sw, hlen, if_pos sm, fw, hf]
  subst e
  have hnone : sumFault (.tup l) q ws qs = none := by
    unfold sumFault
    rw [if_pos sw, hlen, if_pos sm, fw, fq]
  have pn : (D.int l.length).pl = true := by rw [D.pl]
  have pw := D.ok_pl hw
  have pq := D.ok_pl hq
  have pws := D.ok_pl hws
  have pqs := D.ok_pl hqs
  have pnon : D.non.pl = true := by rw [D.pl]
  have ok : (([Sl.no, .b (.tup l), .b q, .b ws, .b qs, .v (.int l.length), .v .non]).all iOk) = true := by
    show (iOk .no && (iOk (.b (.tup l)) && (iOk (.b q) && (iOk (.b ws) && (iOk (.b qs) && ((D.int l.length).pl && (D.non.pl && true))))))) = true
    rw [pn, pnon]
    rfl
  refine dss_cons (ds_self 0 rfl (.inl rfl) (a := a) (c := 1) (l := []) rfl rfl (no_n1 T) (T.cls 1) (by rw [plL]) (by exact ok) ?_)
  refine de_var 5 rfl (.inr (.inl rfl)) rfl ⟨pn, ?_⟩
  refine dss_cons (ds_self 0 rfl (.inl rfl) (a := a) (c := 1) (l := [.int l.length]) rfl rfl (no_word T) (T.cls 1) (by rw [plL, plL, pn]; rfl) (by exact ok) ?_)
  refine de_var 1 rfl (.inl rfl) rfl ⟨pw, ?_⟩
  refine dss_cons (ds_self 0 rfl (.inl rfl) (a := a) (c := 1) (l := [.int l.length, .tup l]) rfl rfl (no_square T) (T.cls 1) (by rw [plL, plL, plL, pn, pw]; rfl) (by exact ok) ?_)
  refine de_var 2 rfl (.inl rfl) rfl ⟨pq, ?_⟩
  refine dss_cons (ds_self 0 rfl (.inl rfl) (a := a) (c := 1) (l := [.int l.length, .tup l, q]) rfl rfl (no_words T) (T.cls 1) (by rw [plL, plL, plL, plL, pn, pw, pq]; rfl) (by exact ok) ?_)
  refine de_var 3 rfl (.inl rfl) rfl ⟨pws, ?_⟩
  refine dss_one (ds_self 0 rfl (.inl rfl) (a := a) (c := 1) (l := [.int l.length, .tup l, q, ws]) rfl rfl (no_squares T) (T.cls 1) (by rw [plL, plL, plL, plL, plL, pn, pw, pq, pws]; rfl) (by exact ok) ?_)
  refine de_var 4 rfl (.inl rfl) rfl ⟨pqs, ?_⟩
  exact ⟨_, rfl, rfl, hΦ hnone⟩
end
end Fr
end
-- FrMake
section
set_option Elab.async false
set_option linter.all false
set_option maxRecDepth 100000
/-! Making papers; calls that may raise. -/
namespace Fr
open PySem PySem.Spec PyProof.Rows L2
/-! ### keywords -/
def tK (X : Cx) (kws : List Keyword) : TA := fun σ H Q => ∀ (pos : Pos) (pins : List (Addr × Obj)) (s : Shared), Inv X pins σ H s → wpAny (model X.prog X.w) X.A (evalAll ((backToKw pos (keywordEach kws X.env)).map (·.2))) (AP X pins σ Q) X.xe s
def DKw (X : Cx) (kws : List Keyword) (δ : List Sl) (Φ : List D → Prop) : Prop := ∀ σ H Q, Ek X.K H σ δ → Kl X.K H Φ Q → tK X kws σ H Q
section
variable {X : Cx} {kws : List Keyword} {δ : List Sl} {Φl : List D → Prop} {e : Expr} {nm : Option Str} {kpos : Pos}
theorem pk_K : PK X kws (tK X kws) := ⟨fun pos pins s _ _ _ I h => h pos pins s I⟩
theorem DKw.of {t : TA} (h : PK X kws t) (hh : ∀ σ H Q, Ek X.K H σ δ → Kl X.K H Φl Q → t σ H Q) : DKw X kws δ Φl := fun σ H Q en k pos pins s I => h.run pos pins s σ H Q I (hh σ H Q en k)
theorem dk_nil (h : Φl []) : DKw X [] δ Φl := .of pk_nil fun σ H Q en k => k [] [] H h (Kp.refl _ _) .nil
theorem dk_cons (h : DE X e δ fun d => DKw X kws δ fun ds => Φl (d :: ds)) : DKw X (⟨nm, e, kpos⟩ :: kws) δ Φl :=
  .of (pk_cons pe_E pk_K) fun σ H Q en k => h σ H _ en fun d v H1 h1 k1 d1 => h1 σ H1 _ (en.keep k1) fun ds vs H2 p k2 d2 => k (d :: ds) (v :: vs) H2 p (k1.trans k2) (.cons (d1.keep k2) d2)
end
/-! ### classes -/
/-- made by n values by place, the defaults' data dl behind -/
structure MakD (P : Program) (w : World) (K : PySem.W.Frag) (mg : Str → Option Value) (base : Heap) (k : Nat) (x : Str) (c : Nat) (dl : List D) (sp : DSp) : Prop where
  ex : ∃ (f : Addr) (fd : FuncData) (ps : List Str) (dvs : List V) (ds : List Value), Mk K (cA K c) f ∧ FnOk P w K mg base (L2.CX P w) k f fd ps (toSpI K c sp) ∧ mg x = some (.ref (cA K c)) ∧ Binds K fd ps ds ∧ Vals dvs ds ∧ ∀ H, DatL K H dvs dl
/-- .. n by place, the rest by keywords, in the parameters' order -/
structure MakK (P : Program) (w : World) (K : PySem.W.Frag) (mg : Str → Option Value) (base : Heap) (k : Nat) (x : Str) (c n : Nat) (ks : List Str) (sp : DSp) : Prop where
  ex : ∃ (f : Addr) (fd : FuncData) (ps : List Str), Mk K (cA K c) f ∧ FnOk P w K mg base (L2.CX P w) k f fd ps (toSpI K c sp) ∧ mg x = some (.ref (cA K c)) ∧ KBn K fd ps (n + 1) ks (fun us ws => us ++ ws) (fun vs zs => vs ++ zs)
section
variable {X : Cx} {δ : List Sl} {Φ : D → Prop} {Δ : DEnds} {e o : Expr} {es : List Expr} {kws : List Keyword} {p pos apos epos : Pos} {x m : Str} {k c n : Nat} {ks : List Str} {dl : List D} {sp : DSp}
theorem mk_sp {K : PySem.W.Frag} {H1 : Hp} {vs : List V} {ds : List D} {a dx : Addr} {Q : VK} {E : XK} {Ψ : Nat → List D → Prop} (d1 : DatL K H1 vs ds) (t : Tabs K H1) (h1 : H1 a = none) (h2 : H1 dx = none) (hne : dx ≠ a) (hs : sp ds Φ Ψ)
    (k1 : ∀ d H', Φ d → Kp K H1 H' → Dat K H' (.ref a) d → Q (.ref a) H') (k2 : Kx K H1 Ψ E) : toSpI K c sp (.ref a :: vs) (upd (upd H1 dx (.own a)) a (.ins (cA K c) dx [])) (fun v H2 => v = .non ∧ Q (.ref a) H2) E :=
  ⟨a, dx, vs, ds, Φ, Ψ, H1, rfl, h1, h2, hne, rfl, d1, t, hs, fun d H2 p kp hd => ⟨rfl, k1 d H2 p kp hd⟩, k2⟩
theorem de_makeD (C : MakD X.prog X.w X.K X.mg X.base k x c dl sp) (hr : Room (k + 1) X.A) (hg : Gl X x) (h : DA X (e :: es) δ fun ds => sp (ds ++ dl) Φ no2) (hdb : (x == ("__debug__" : Str)) = false := by decide)
    (he : starEach (e :: es) X.env = (false, eval e X.env) :: starEach es X.env := by rfl) (hpl : (backTo pos (starEach es X.env)).any (·.1) = false := by rfl) : DE X (.Call (.Name x p) (e :: es) [] pos) δ Φ := by
  obtain ⟨f, fd, ps, dvs, ds0, M, F, hm, hb, hv, hd⟩ := C.ex
  exact .of (pe_make M F hr hg hm hb hv passL pa_A hdb he hpl) fun σ H Q en kk => h σ H _ en fun ds vs H1 q k1 d1 a dx ha hdx hne =>
    mk_sp (d1.append (hd H1)) (en.keep k1).1 ha hdx hne q (fun d H2 p k2 hd => kk d _ H2 p (k1.trans k2) hd) kx_no
theorem de_makeK (C : MakK X.prog X.w X.K X.mg X.base k x c n ks sp) (hr : Room (k + 1) X.A) (hg : Gl X x) (h : DA X (e :: es) δ fun ds => DKw X kws δ fun zs => ds.length = n ∧ zs.length = ks.length ∧ sp (ds ++ zs) Φ no2)
    (hall : (backToKw pos (keywordEach kws X.env)).all (·.1.isSome) = true := by rfl) (hks : (backToKw pos (keywordEach kws X.env)).filterMap (·.1) = ks := by rfl) (hdb : (x == ("__debug__" : Str)) = false := by decide)
    (he : starEach (e :: es) X.env = (false, eval e X.env) :: starEach es X.env := by rfl) (hpl : ((backTo pos (starEach (e :: es) X.env)).any (·.1) || (backToKw pos (keywordEach kws X.env)).any (·.1.isNone)) = false := by rfl) : DE X (.Call (.Name x p) (e :: es) kws pos) δ Φ := by
  obtain ⟨f, fd, ps, M, F, hm, hb⟩ := C.ex
  exact .of (pe_makeK M F hr hg hm hb passL pa_A pk_K hall hks hdb he hpl) fun σ H Q en kk => h σ H _ en fun ds vs H1 hk k1 d1 => hk σ H1 _ (en.keep k1) fun zs us H2 ⟨l1, l2, q⟩ k2 d2 =>
    ⟨by rw [d1.length, l1], by rw [d2.length, l2], fun a dx ha hdx hne => mk_sp ((d1.keep k2).append d2) ((en.keep k1).keep k2).1 ha hdx hne q (fun d H3 p k3 hd => kk d _ H3 p ((k1.trans k2).trans k3) hd) kx_no⟩
theorem de_makeK0 (C : MakK X.prog X.w X.K X.mg X.base k x c 0 ks sp) (hr : Room (k + 1) X.A) (hg : Gl X x) (h : DKw X kws δ fun zs => zs.length = ks.length ∧ sp zs Φ no2)
    (hall : (backToKw pos (keywordEach kws X.env)).all (·.1.isSome) = true := by rfl) (hks : (backToKw pos (keywordEach kws X.env)).filterMap (·.1) = ks := by rfl) (hdb : (x == ("__debug__" : Str)) = false := by decide)
    (hpl : ((backTo pos (starEach [] X.env)).any (·.1) || (backToKw pos (keywordEach kws X.env)).any (·.1.isNone)) = false := by rfl) : DE X (.Call (.Name x p) [] kws pos) δ Φ := by
  obtain ⟨f, fd, ps, M, F, hm, hb⟩ := C.ex
  exact .of (pe_makeK0 M F hr hg hm hb passL pk_K hall hks hdb hpl) fun σ H Q en kk => h σ H _ en fun zs us H2 ⟨l2, q⟩ k2 d2 =>
    ⟨rfl, by rw [d2.length, l2], fun a dx ha hdx hne => mk_sp d2 (en.keep k2).1 ha hdx hne q (fun d H3 p k3 hd => kk d _ H3 p (k2.trans k3) hd) kx_no⟩
/-! ### as statements: an error goes on -/
abbrev eW (W : WX) : XK := fun cls d H => ∀ σ', W cls d σ' H
theorem kx_w {K : PySem.W.Frag} {H0 H : Hp} {D : Ends} {W : WX} (kp : Kp K H0 H) (k : EOk K H0 Δ D W) : Kx K H Δ.ex (eW W) := fun c ds dx fs H' p k2 e hf σ' => k.ex c ds dx fs σ' H' p (kp.trans k2) e hf
theorem ds_make (C : MakD X.prog X.w X.K X.mg X.base k x c [] sp) (hr : Room (k + 1) X.A) (hg : Gl X x) (h : DA X (e :: es) δ fun ds => sp ds (fun _ => Δ.nx δ) Δ.ex) (hdb : (x == ("__debug__" : Str)) = false := by decide)
    (he : starEach (e :: es) X.env = (false, eval e X.env) :: starEach es X.env := by rfl) (hpl : (backTo pos (starEach es X.env)).any (·.1) = false := by rfl) (hs : swapsWith (.Call (.Name x p) (e :: es) [] pos) none epos.line X.env = pure false := by rfl) : DS X (.Expr (.Call (.Name x p) (e :: es) [] pos) epos) δ Δ := by
  obtain ⟨f, fd, ps, dvs, ds0, M, F, hm, hb, hv, hd⟩ := C.ex
  refine fun H0 σ H Dn W tk s kk pins sh I => (ps_expr (pe_make M F hr hg hm hb hv (passes_call (E := eW W) tk fun _ _ σ' _ h => h σ') pa_A hdb he hpl) hs).run pins sh σ H Dn I ?_
  refine h σ H _ s.en fun ds vs H1 q k1 d1 a dx ha hdx hne => ?_
  have dl := hd H1
  cases dl
  rw [List.append_nil]
  exact mk_sp (Q := fun _ H' => Dn.nx σ H') d1 (s.en.keep k1).1 ha hdx hne q (fun d H2 p k2 _ => kk.nx _ _ H2 p (s.keep (k1.trans k2))) (kx_w (s.kp.trans k1) kk)
theorem ds_makeK (C : MakK X.prog X.w X.K X.mg X.base k x c n ks sp) (hr : Room (k + 1) X.A) (hg : Gl X x) (h : DA X (e :: es) δ fun ds => DKw X kws δ fun zs => ds.length = n ∧ zs.length = ks.length ∧ sp (ds ++ zs) (fun _ => Δ.nx δ) Δ.ex)
    (hall : (backToKw pos (keywordEach kws X.env)).all (·.1.isSome) = true := by rfl) (hks : (backToKw pos (keywordEach kws X.env)).filterMap (·.1) = ks := by rfl) (hdb : (x == ("__debug__" : Str)) = false := by decide)
    (he : starEach (e :: es) X.env = (false, eval e X.env) :: starEach es X.env := by rfl) (hpl : ((backTo pos (starEach (e :: es) X.env)).any (·.1) || (backToKw pos (keywordEach kws X.env)).any (·.1.isNone)) = false := by rfl)
    (hs : swapsWith (.Call (.Name x p) (e :: es) kws pos) none epos.line X.env = pure false := by rfl) : DS X (.Expr (.Call (.Name x p) (e :: es) kws pos) epos) δ Δ := by
  obtain ⟨f, fd, ps, M, F, hm, hb⟩ := C.ex
  refine fun H0 σ H Dn W tk s kk pins sh I => (ps_expr (pe_makeK M F hr hg hm hb (passes_call (E := eW W) tk fun _ _ σ' _ h => h σ') pa_A pk_K hall hks hdb he hpl) hs).run pins sh σ H Dn I ?_
  refine h σ H _ s.en fun ds vs H1 hk k1 d1 => hk σ H1 _ (s.en.keep k1) fun zs us H2 ⟨l1, l2, q⟩ k2 d2 =>
    ⟨by rw [d1.length, l1], by rw [d2.length, l2], fun a dx ha hdx hne => mk_sp (Q := fun _ H' => Dn.nx σ H') ((d1.keep k2).append d2) ((s.en.keep k1).keep k2).1 ha hdx hne q (fun d H3 p k3 _ => kk.nx _ _ H3 p (s.keep ((k1.trans k2).trans k3))) (kx_w ((s.kp.trans k1).trans k2) kk)⟩
theorem ds_meth {pl : Sem Bool} (C : Met X.prog X.w X.K X.mg X.base k c m sp) (hr : Room k X.A) (h : DE X o δ fun x => ∃ l, x = .obj c l ∧ DA X (e :: es) δ fun ds => sp (x :: ds) (fun _ => Δ.nx δ) Δ.ex)
    (hst : starEach (e :: es) X.env = (false, eval e X.env) :: starEach es X.env := by rfl) (hpl : (backTo pos (starEach es X.env)).any (·.1) = false := by rfl)
    (ht : eval (.Call (.Attribute o m apos) (e :: es) [] pos) X.env = (do
      let ov ← eval o X.env
      standAt apos.atName
      let (f, first) ← holding [ov] (getMethod ov m pl)
      callWith pos f first (backTo pos (starEach (e :: es) X.env)) (backToKw pos (keywordEach [] X.env))) := by rfl)
    (hs : swapsWith (.Call (.Attribute o m apos) (e :: es) [] pos) none epos.line X.env = pure false := by rfl) : DS X (.Expr (.Call (.Attribute o m apos) (e :: es) [] pos) epos) δ Δ := by
  obtain ⟨f, fd, ps, cl, me, F, hb, hn⟩ := C.ex
  refine fun H0 σ H Dn W tk s kk pins sh I => (ps_expr (pe_meth pe_E cl me F hr hb .nil (passes_call (E := eW W) tk fun _ _ σ' _ h => h σ') pa_A hst hpl ht) hs).run pins sh σ H Dn I ?_
  refine h σ H _ s.en fun d v H1 ⟨l, ed, q⟩ k1 d1 => ?_
  subst ed
  cases d1 with
  | @obj a dx _ fs _ hh hl =>
    refine ⟨a, dx, fs, rfl, hh, datF_no hl hn, q σ H1 _ (s.en.keep k1) fun ds vs H2 q k2 d2 => ?_⟩
    rw [List.append_nil]
    exact ⟨.obj c l :: ds, _, _, .cons (.obj (k2.st _ _ hh trivial) (hl.keep k2)) d2, ((s.en.keep k1).keep k2).1, q, fun d u H3 p k3 _ => kk.nx _ _ H3 p (s.keep ((k1.trans k2).trans k3)), kx_w ((s.kp.trans k1).trans k2) kk⟩
end
/-! ### the two papers -/
section
variable {P : Program} {w : World} {K : PySem.W.Frag} {mg : Str → Option Value} {base : Heap}
theorem empty_dat {a : Addr} (h : emptyT K a = true) (H : Hp) : Dat K H (.ref a) (.tup []) := by
  unfold emptyT at h
  split at h
  · rename_i c dd its n sl e
    rw [Bool.and_eq_true, decide_eq_true_iff] at h
    obtain ⟨rfl, h2⟩ := h
    have z : its = #[] := Array.isEmpty_iff.mp h2
    subst z
    exact .tup (.inr ⟨_, #[], n, e, rfl, rfl, Nat.zero_le _, .nil⟩) .nil
  · cases h
theorem mkd_T (T : Tx K mg base) : MakD P w K mg base 3 "TablePaper" 0 [] sp_TableI := by
  obtain ⟨fd, F, hb, _⟩ := ok_TableI (P := P) (w := w) T
  exact ⟨_, fd, _, [], [], He.mkr_ok (T.d.fact 73 (f := .mkr "TablePaper") rfl), F, T.glo 56 rfl, hb, .nil, fun _ => .nil⟩
theorem mkk_T (T : Tx K mg base) : MakK P w K mg base 3 "TablePaper" 0 0 ["n", "f", "g"] sp_TableI := by
  obtain ⟨fd, F, hb, FD⟩ := ok_TableI (P := P) (w := w) T
  obtain ⟨oc, od, dV, kV, doc, pm, an, cdv, ct, osl, rfl, lk, hcd, hD, hK⟩ := FD.ex
  rcases hD with ⟨_, rfl⟩ | ⟨e, _⟩
  · exact ⟨_, _, _, He.mkr_ok (T.d.fact 73 (f := .mkr "TablePaper") rfl), F, T.glo 56 rfl, ⟨fun s us ws X l1 l2 => .of_eq (match us, ws, l1, l2 with | [_], [_, _, _], _, _ => rfl), fun r1 r2 => r1.append r2⟩⟩
  · exact absurd rfl e
theorem mkd_S (T : Tx K mg base) : MakD P w K mg base 12 "SumsPaper" 1 [.tup [], .tup []] sp_SumsI := by
  obtain ⟨fd, F, FD⟩ := ok_SumsI (P := P) (w := w) T
  have M := more_parts T.m
  obtain ⟨ds, hv, hb⟩ := FD.binds0 (ps := ["self", "word", "square", "words", "squares"]) 3 (by simp) rfl fun D doc pm an cdv ct us ks l1 l2 => match us, ks, l1, l2 with
    | [_, _, _], [_, _], _, _ => ⟨_, _, _, _, _, _, rfl, rfl, ⟨_, _, _, _, _, _, rfl, rfl, rfl⟩⟩
  exact ⟨_, fd, _, _, ds, He.mkr_ok (T.d.fact 78 (f := .mkr "SumsPaper") rfl), F, T.glo 57 rfl, hb, hv, fun H => .cons (empty_dat M.e1 H) (.cons (empty_dat M.e2 H) .nil)⟩
theorem mkk_S (T : Tx K mg base) : MakK P w K mg base 12 "SumsPaper" 1 2 ["words", "squares"] sp_SumsI := by
  obtain ⟨fd, F, FD⟩ := ok_SumsI (P := P) (w := w) T
  obtain ⟨mv, hb⟩ := FD.kbinds0 (ps := ["self", "word", "square", "words", "squares"]) 3 ["words", "squares"] [] (fun us _ ws => us ++ ws) (by simp) (fun q hq => by cases hq) (fun r1 _ r2 => r1.append r2) fun D doc pm an cdv ct us mv ws l1 l2 l3 => match us, mv, ws, l1, l2, l3 with
    | [_, _, _], [], [_, _], _, _, _ => rfl
  exact ⟨_, fd, _, He.mkr_ok (T.d.fact 78 (f := .mkr "SumsPaper") rfl), F, T.glo 57 rfl, hb⟩
end
end Fr
end
-- FrTry
section
set_option Elab.async false
set_option linter.all false
set_option maxRecDepth 100000
/-! try: .. except C as e: ..; what the suite asks of e. -/
namespace Fr
open PySem PySem.Spec PyProof.Rows L2
open PySem.W (Looks)
/-! ### e.__class__, isinstance -/
/-- what an error class has for isinstance -/
structure ExIs (K : PySem.W.Frag) (C : Addr) : Prop where
  xf : XfC K C
  cl : PySem.W.findIn K (.ref C) "__class__" = some (some (.builtin "object.__class__"))
  ob : PySem.W.mroIn K C (.type "object") = some true
  cg : PySem.W.specialIn K (.builtin "object.__class__") "__get__" = some (some (.builtin "getset_descriptor.__get__"))
  ct : PySem.W.takesIn K (.builtin "object.__class__") = some true
section
variable {prog : Program} {w : World} {A : Around} {E : Value → Shared → Prop} {K : PySem.W.Frag} {x C : Addr} {ox od : Obj}
theorem exn_class {s : Shared} {Q : Option Value → Shared → Prop} (T : ExIs K C) (kin : K.In s.heap) (J : PySem.W.InstAt s.heap x ox C (some od)) (h : Q (some (.ref C)) { s with toks := s.toks + 1 }) : wpAny (model prog w) A (getAttr? (.ref x) "__class__") Q E s := by
  have known : (PySem.W.clsIn K C).isSome = true := by
    obtain ⟨cd, hc, _⟩ := PySem.W.any_some T.xf.hdC
    rw [hc]
    rfl
  have got : PySem.W.findObj K C (some od) "__class__" = some (.bind (.builtin "getset_descriptor.__get__") (.builtin "object.__class__")) := PySem.W.findObj_data known T.cl T.cg T.ct
  obtain ⟨hh, gs, dr, tk, os⟩ := s
  have ty := J.type (M := model prog w)
  have look := PySem.W.looks_find (M := model prog w) kin J got
  have isE : Looks (model prog w) hh (isInstance (.ref x) (.type "BaseException")) true := ty.andThen (PySem.W.looks_subIn kin T.xf.exC)
  have notObj : (onTheHeap (Value.ref C) && Value.builtin "BaseException.__getattribute__" == Value.builtin "object.__getattribute__") = false := by
    rw [show (Value.builtin "BaseException.__getattribute__" == Value.builtin "object.__getattribute__") = false by decide +kernel, Bool.and_false]
  -- what the slot answers
  have slot : wpAny (model prog w) A (call (.builtin "BaseException.__getattribute__") [.ref x, .str "__class__" tk]) (fun v s' => v = .ref C ∧ Q (some (.ref C)) s') (fun _ _ => False) ⟨hh, gs, dr, tk + 1, os⟩ := by
    refine wpAny_call (codeAny_call_builtin PySem.F.excAttr_ValueError.ga.plain PySem.F.entry_bexc_ga (PySem.W.check_slot (M := model prog w) (s := ⟨hh, gs, dr, tk + 1, os⟩) (i := "BaseException.__getattribute__") (owner := "BaseException") (n := "__getattribute__") (self := .ref x) (rest := [.str "__class__" tk]) (kw := []) (by decide +kernel) (by decide +kernel) isE (PySem.F.args_bexc_ga (.ref x) (.str "__class__" tk)) ?_))
    unfold Builtin.«object.__getattribute__»
    refine wpAny_bind (m := slotArgs "__getattribute__" 1 ⟨[.ref x, .str "__class__" tk], []⟩) (wpAny_pure ?_)
    refine wpAny_bind (wpAny_pure (wpAny_bind (ty.at (wpAny_bind (look.at ?_)))))
    refine wpAny_bind (wpAny_holding (wpAny_call (PySem.W.class_get (s := ⟨hh, gs, dr, tk + 1, os⟩) kin J T.ob ?_)))
    exact wpAny_pure ⟨rfl, h⟩
  have asked : wpAny (model prog w) A (callGetattribute (.ref x) (.str "__class__" tk) (.builtin "BaseException.__getattribute__") false) (fun v s' => v = .ref C ∧ Q (some (.ref C)) s') (fun _ _ => False) ⟨hh, gs, dr, tk + 1, os⟩ := by
    unfold callGetattribute boundAndCalled
    rw [Bool.false_and, if_neg Bool.false_ne_true, PySem.F.excAttr_ValueError.ga.bind (.ref x)]
    exact wpAny_bind (wpAny_pure slot)
  have whole : wpAny (model prog w) A (getAttrBy (.ref x) (.str "__class__" tk) false) (fun v s' => v = .ref C ∧ Q (some (.ref C)) s') (fun _ _ => False) ⟨hh, gs, dr, tk + 1, os⟩ := by
    unfold getAttrBy
    refine wpAny_holding (wpAny_bind (ty.at (wpAny_bind ((PySem.W.looks_findIn kin T.xf.ga).at ?_))))
    show wpAny _ _ (if (onTheHeap (Value.ref C) && Value.builtin "BaseException.__getattribute__" == Value.builtin "object.__getattribute__") = true then _ else _) _ _ _
    rw [notObj, if_neg Bool.false_ne_true]
    unfold getAttrByItsOwn hookBefore
    refine wpAny_bind ?_
    rw [if_pos (show onTheHeap (Value.ref C) = true from rfl)]
    refine (PySem.W.looks_findIn kin T.xf.gg).at (wpAny_bind (wpAny_attempt (wpAny_holding (wpAny_mono asked (fun v s' ⟨ev, q⟩ => ?_) fun e s' z => ?_))))
    · subst ev
      show wpAny _ _ (handedOut (.ref C)) _ _ _
      rw [PySem.W.handedOut_of (v := .ref C) rfl]
      exact wpAny_pure ⟨rfl, q⟩
    · exact z.elim
  unfold getAttr? getAttrBy?
  refine wpAny_bind (wpAny_mkText (wpAny_bind (wpAny_attempt (wpAny_mono whole (fun v s' ⟨ev, q⟩ => ?_) fun e s' z => ?_))))
  · subst ev
    exact wpAny_pure q
  · exact z.elim
theorem kit_exn (T : ExIs K C) : PySem.W.KitX K (.ref x) (.ref C) (fun h => PySem.W.InstAt h x ox C (some od)) := by
  have cls : ∀ h, K.In h → ∃ o cd, h.get? C = some o ∧ o.data = .cls cd := fun h kin => by
    obtain ⟨cd, hc, _⟩ := PySem.W.any_some T.xf.hdC
    unfold PySem.W.clsIn at hc
    split at hc
    · rename_i c d cd' sl e
      exact ⟨_, cd', kin _ _ e, rfl⟩
    · cases hc
  refine ⟨fun M h _ J => J.type, fun M h kin _ => ?_, fun h tp dd its n sl kin htp => ?_, fun kin J q => exn_class T kin J q⟩
  · obtain ⟨o, cd, e, d⟩ := cls h kin
    exact fun A Q E s k q => by
      unfold isType loadHead
      refine wpAny_bind (wpAny_loadPart (k _ _ e) ?_)
      rw [d]
      exact wpAny_pure q
  · refine Bool.eq_false_iff.mpr fun q => ?_
    have eC : C = tp := Value.ref.inj (eq_of_beq q)
    subst eC
    obtain ⟨o, cd, e, d⟩ := cls h kin
    rw [e] at htp
    rw [Option.some.inj htp] at d
    cases d
end
theorem exIs_of {K : PySem.W.Frag} {mg : Str → Option Value} {base : Heap} (T : Tx K mg base) (c : Nat) : ExIs K (xA K c) := by
  have M := more_parts T.m
  have k := exk_of T c
  exact ⟨k.xf, k.cl, k.ob, M.cg, M.ct⟩
/-! ### in the suite -/
section
variable {X : Cx} {a : Addr} {oe : Obj} {pn : List (Addr × Obj)} {δ : List Sl} {Φ : D → Prop} {e : Expr} {p pos p2 : Pos} {x y f : Str}
/-- e.f, e the caught error -/
theorem de_xf {c : Nat} {d : Option Addr} (T : ExIs X.K (xA X.K c)) (hno : PySem.W.findIn X.K (.ref (xA X.K c)) f = some none) (hz : Zc (.ref (xA X.K c)) d oe) (hf : ∃ vs, oe.data = .fields vs)
    (h : DE (X.suite a ((a, oe) :: pn)) e δ fun z => ∃ dx l v, z = .exn a dx c l ∧ d = some dx ∧ ((xN c).zip l).lookup f = some v ∧ Φ v) (hb : attributeBase e f X.env (eval e X.env) = eval e X.env := by rfl) : DE (X.suite a ((a, oe) :: pn)) (.Attribute e f pos) δ Φ :=
  .of (pe_xf (X := X) T.xf hno hz hf pe_E hb) fun σ H Q en k => h σ H _ en fun z v H1 ⟨dx, l, w', ez, ed, el, q⟩ k1 d1 => by
    subst ez
    cases d1 with
    | exn hx hl =>
      obtain ⟨u, e1, e2⟩ := datF_look hl el
      exact ⟨rfl, rfl, dx, _, u, ed, hx, e1, k _ _ H1 q k1 e2⟩
def rIsX (K : PySem.W.Frag) (C a : Addr) (d : Option Addr) : List V → Hp → VK → Prop := fun xs H Q => ∃ (cv : V) (u : Value) (b : Bool) (dx : Addr) (fs : List (Str × V)), xs = [.ref a, cv] ∧ (∀ t, RelV cv t → t = u) ∧ PySem.W.kitOne K (.ref C) u = some b ∧ d = some dx ∧ H dx = some (.xd fs) ∧ Q (.bl b) H
theorem call_isX {C : Addr} {d : Option Addr} (T : ExIs X.K C) (hz : Zc (.ref C) d oe) (hf : ∃ vs, oe.data = .fields vs) : CallR (X.suite a ((a, oe) :: pn)) (.builtin "isinstance") (rIsX X.K C a d) := by
  intro pins s σ H xs us Q I r ⟨cv, u, b, dx, fs, ex, hcv, e, ed, hx, q⟩
  subst ex ed
  obtain ⟨u1, u2, rfl, r1, r2⟩ := vals2 r
  obtain rfl : u1 = Value.ref a := r1
  rw [hcv _ r2]
  obtain ⟨at_, _⟩ := I.pin (a, oe) (List.mem_append_left _ List.mem_cons_self)
  obtain ⟨vs, hd⟩ := hf
  obtain ⟨mA, hns, _⟩ := (show ObjOk X.prog X.w H s.heap dx (.xd fs) from I.hok dx _ hx)
  obtain ⟨od, ho, _⟩ := lookIn_ns hns
  have J : PySem.W.InstAt s.heap a oe C (some od) := ⟨at_, hz.1, by unfold PySem.W.notCls; rw [hd] <;> rfl, by rw [hz.2]; exact ho⟩
  exact PySem.W.kia_one (kit_exn T) I.kIn J e (fun z => nomatch z) fun tk => ⟨.bl b, H, I.tok tk, rfl, q⟩
/-- isinstance(e, C) of the caught error -/
theorem de_isX {c : Nat} {d : Option Addr} {C : Addr} (T : ExIs X.K (xA X.K c)) (hz : Zc (.ref (xA X.K c)) d oe) (hf : ∃ vs, oe.data = .fields vs) (hg : Gl X x) (hm : X.mg x = none) (hv : bootBuiltins x = some (.builtin "isinstance")) (hg2 : Gl X y) (hm2 : X.mg y = some (.ref C)) {b : Bool} (hk : PySem.W.kitOne X.K (.ref (xA X.K c)) (.ref C) = some b)
    (h : DE (X.suite a ((a, oe) :: pn)) e δ fun z => ∃ dx l, z = .exn a dx c l ∧ d = some dx ∧ Φ (.bl b)) (hn : x ≠ "__name__" := by decide) (hdb : (x == ("__debug__" : Str)) = false := by decide) (hdb2 : (y == ("__debug__" : Str)) = false := by decide)
    (he : starEach [e, .Name y p2] X.env = (false, eval e X.env) :: starEach [.Name y p2] X.env := by rfl) (hpl : (backTo pos (starEach [.Name y p2] X.env)).any (·.1) = false := by rfl) (he2 : starEach [.Name y p2] X.env = (false, eval (.Name y p2) X.env) :: starEach [] X.env := by rfl) :
    DE (X.suite a ((a, oe) :: pn)) (.Call (.Name x p) [e, .Name y p2] [] pos) δ Φ :=
  .of (pe_callB (X := X.suite a ((a, oe) :: pn)) (call_isX T hz hf) hg hm hv (pa_cons pe_E (pa_cons (pe_glob (v := .ref C) hg2 hm2 rfl hdb2) pa_nil he2) he) hn hdb he hpl) fun σ H Q en k => h σ H _ en fun z v H1 ⟨dx, l, ez, ed, q⟩ k1 d1 => by
    subst ez
    cases d1 with
    | exn hx hl => exact ⟨.ref C, .ref C, b, dx, _, rfl, fun t r => r, hk, ed, hx, k _ _ H1 q k1 (.bl _)⟩
end
/-! ### an expression that may raise, within a try -/
/-- errors of a call at these slots -/
def PassAt (X : Cx) (σ : L2.St) (E : XK) : Prop := ∀ (pins : List (Addr × Obj)) (H : Hp) (s : Shared) (e : Value) (s' : Shared), Inv X pins σ H s → L2.CX X.prog X.w X.stack H s E e s' → X.xe e s'
def DX (X : Cx) (e : Expr) (δ : List Sl) (Φ : D → Prop) (Ψ : Nat → List D → Prop) : Prop := ∀ (pn : List (Addr × Obj)) (xe : Value → Shared → Prop) σ H Q (E : XK), Ek X.K H σ δ → Kd X.K H Φ Q → Kx X.K H Ψ E → PassAt (X.tr pn xe) σ E →
  ∀ (pins : List (Addr × Obj)) (s : Shared), Inv (X.tr pn xe) pins σ H s → wpAny (model X.prog X.w) X.A (eval e X.env) (EP (X.tr pn xe) pins σ Q) xe s
section
variable {X : Cx} {δ : List Sl} {Φ : D → Prop} {Ψ : Nat → List D → Prop} {e o : Expr} {es : List Expr} {kws : List Keyword} {p pos apos : Pos} {x m : Str} {k c n : Nat} {ks : List Str} {sp : DSp} {pins : List (Addr × Obj)} {σ : L2.St} {H : Hp} {s : Shared} {Q : VK} {E : XK}
theorem back_at {R : Result} {s' : Shared} (hx : PassAt X σ E) (I : Inv X pins σ H s) (h : CR (L2.CX X.prog X.w) X.stack X.prog X.w H s Q E R s') : match R with
    | .ok (.ret u) => EP X pins σ Q u s'
    | .ok _ => False
    | .error z => X.xe z s' := by
  match R, h with
  | .error z, h => exact hx pins H s z s' I h
  | .ok (.ret u), h => exact I.after h
/-- a class is called: its __init__ runs -/
theorem make_at {C f : Addr} {fd : FuncData} {ps : List Str} {sp : Sp} {us bs : List Value} {bv : List V} {kw : List (Str × Value)} (M : Mk X.K C f) (F : FnOk X.prog X.w X.K X.mg X.base (L2.CX X.prog X.w) k f fd ps sp) (hr : Room (k + 1) X.A) (hx : PassAt X σ E) (I : Inv X pins σ H s)
    (hb : ∀ (s' : Shared) (a : Addr), X.K.In s'.heap → (Value.ref a :: bs).length = ps.length → BindsTo s' fd ⟨.ref a :: us, kw⟩ (ps.zip (.ref a :: bs))) (r : Vals bv bs)
    (h : ∀ a dx, H a = none → H dx = none → dx ≠ a → sp (.ref a :: bv) (upd (upd H dx (.own a)) a (.ins C dx [])) (fun v H2 => v = .non ∧ Q (.ref a) H2) E) :
    wpAny (model X.prog X.w) X.A (call (.ref C) us kw) (EP X pins σ Q) X.xe s := by
  have now := h (s.heap.objs.size + 1) s.heap.objs.size (I.hok.fresh (Nat.le_succ _)) (I.hok.fresh (Nat.le_refl _)) (Nat.ne_of_lt (Nat.lt_succ_self _))
  have J := Inv.made (C := C) I
  have r2 : Vals (V.ref (s.heap.objs.size + 1) :: bv) (Value.ref (s.heap.objs.size + 1) :: bs) := .cons rfl r
  have go := F.run _ X.stack _ _ ⟨Value.ref (s.heap.objs.size + 1) :: us, kw⟩ _ _ _ E (hr.make C us kw) (J.env0.make C us kw) (hb _ (s.heap.objs.size + 1) J.kIn (r2.length.symm.trans (F.len _ _ _ _ now))) r2 now
  refine wpAny_call (make_map (f := f) I.kIn M.makes M.init (beq_iff_eq.mp M.fn) (codeAny_mono go fun R s' hq => ?_))
  have q := back_at hx J hq
  cases R with
  | error z => exact q
  | ok fl =>
    cases fl with
    | ret u =>
      obtain ⟨v, H', J', rv, ev, q3⟩ := q
      subst ev
      exact ⟨rv, .ref (s.heap.objs.size + 1), H', J', rfl, q3⟩
    | next => exact q.elim
    | brk => exact q.elim
    | cont => exact q.elim
theorem dx_make (C : MakD X.prog X.w X.K X.mg X.base k x c [] sp) (hr : Room (k + 1) X.A) (hg : Gl X x) (h : ∀ pn xe, DA (X.tr pn xe) (e :: es) δ fun ds => sp ds Φ Ψ) (hdb : (x == ("__debug__" : Str)) = false := by decide)
    (he : starEach (e :: es) X.env = (false, eval e X.env) :: starEach es X.env := by rfl) (hpl : (backTo pos (starEach es X.env)).any (·.1) = false := by rfl) : DX X (.Call (.Name x p) (e :: es) [] pos) δ Φ Ψ := fun pn xe σ H Q E en kk kx hx pins s I => by
  obtain ⟨f, fd, ps, dvs, ds0, M, F, hm, hb, hv, hd⟩ := C.ex
  refine wpAny_Call_Name_kw (ld_glob (X := X.tr pn xe) I hg hm ?_ hdb)
  refine PySem.W.callWith_K (h₀ := X.base) I.ok.mod.kin M.kp (thn (h pn xe σ H (fun vs H1 => ∃ ds, sp ds Φ Ψ ∧ Kp X.K H H1 ∧ DatL X.K H1 vs ds) en (fun ds vs H1 q k1 d1 => ⟨ds, q, k1, d1⟩) pos pins s I) fun us s1 ⟨vs, H1, I1, r, ds, q, k1, d1⟩ => ⟨I1.kIn, ?_⟩) he hpl
  have dl := hd H1
  cases dl
  cases hv
  refine make_at (X := X.tr pn xe) (us := us) (bs := us) (bv := vs) M F hr hx I1 (fun s' a kin hl => ?_) r fun a dx ha hdx hne => mk_sp d1 (en.keep k1).1 ha hdx hne q (fun d H2 p k2 hd => kk d _ H2 p (k1.trans k2) hd) fun c ds dx fs H' p k2 => kx c ds dx fs H' p (k1.trans k2)
  have z := hb s' (.ref a :: us) kin (by rw [List.append_nil]; exact hl)
  rw [List.append_nil] at z
  exact z
theorem dx_makeK (C : MakK X.prog X.w X.K X.mg X.base k x c n ks sp) (hr : Room (k + 1) X.A) (hg : Gl X x) (h : ∀ pn xe, DA (X.tr pn xe) (e :: es) δ fun ds => DKw (X.tr pn xe) kws δ fun zs => ds.length = n ∧ zs.length = ks.length ∧ sp (ds ++ zs) Φ Ψ)
    (hall : (backToKw pos (keywordEach kws X.env)).all (·.1.isSome) = true := by rfl) (hks : (backToKw pos (keywordEach kws X.env)).filterMap (·.1) = ks := by rfl) (hdb : (x == ("__debug__" : Str)) = false := by decide)
    (he : starEach (e :: es) X.env = (false, eval e X.env) :: starEach es X.env := by rfl) (hpl : ((backTo pos (starEach (e :: es) X.env)).any (·.1) || (backToKw pos (keywordEach kws X.env)).any (·.1.isNone)) = false := by rfl) : DX X (.Call (.Name x p) (e :: es) kws pos) δ Φ Ψ := fun pn xe σ H Q E en kk kx hx pins s I => by
  obtain ⟨f, fd, ps, M, F, hm, hb⟩ := C.ex
  refine wpAny_Call_Name_kw (ld_glob (X := X.tr pn xe) I hg hm ?_ hdb)
  refine PySem.W.callWith_KW (h₀ := X.base) (first := []) I.ok.mod.kin M.kp hall (thn (h pn xe σ H (fun vs H1 => ∃ ds, DKw (X.tr pn xe) kws δ (fun zs => ds.length = n ∧ zs.length = ks.length ∧ sp (ds ++ zs) Φ Ψ) ∧ Kp X.K H H1 ∧ DatL X.K H1 vs ds) en (fun ds vs H1 q k1 d1 => ⟨ds, q, k1, d1⟩) pos pins s I) fun us s1 ⟨vs, H1, I1, r, ds, hk, k1, d1⟩ => ?_) hpl he
  refine thn (hk σ H1 (fun zs H2 => ∃ es, (ds.length = n ∧ es.length = ks.length ∧ sp (ds ++ es) Φ Ψ) ∧ Kp X.K H1 H2 ∧ DatL X.K H2 zs es) (en.keep k1) (fun es zs H2 q k2 d2 => ⟨es, q, k2, d2⟩) pos pins s1 I1) fun ws s2 ⟨zs, H2, I2, rz, es', ⟨l1, l2, q⟩, k2, d2⟩ => ⟨I2.kIn, ?_⟩
  rw [hks]
  have n1 : us.length = n := by rw [← r.length, d1.length, l1]
  have n2 : ws.length = ks.length := by rw [← rz.length, d2.length, l2]
  exact make_at (X := X.tr pn xe) (us := us) (bs := us ++ ws) (bv := vs ++ zs) (kw := ks.zip ws) M F hr hx I2 (fun s' a kin hl => hb.to s' (.ref a :: us) ws kin (by rw [List.length_cons, n1]) n2) (r.append rz) fun a dx ha hdx hne =>
    mk_sp ((d1.keep k2).append d2) ((en.keep k1).keep k2).1 ha hdx hne q (fun d H3 p k3 hd => kk d _ H3 p ((k1.trans k2).trans k3) hd) fun c ds dx fs H' p k3 => kx c ds dx fs H' p ((k1.trans k2).trans k3)
theorem dx_meth {pl : Sem Bool} (C : Met X.prog X.w X.K X.mg X.base k c m sp) (hr : Room k X.A) (h : ∀ pn xe, DE (X.tr pn xe) o δ fun x => ∃ l, x = .obj c l ∧ DA (X.tr pn xe) (e :: es) δ fun ds => sp (x :: ds) Φ Ψ)
    (hst : starEach (e :: es) X.env = (false, eval e X.env) :: starEach es X.env := by rfl) (hpl : (backTo pos (starEach es X.env)).any (·.1) = false := by rfl)
    (ht : eval (.Call (.Attribute o m apos) (e :: es) [] pos) X.env = (do
      let ov ← eval o X.env
      standAt apos.atName
      let (f, first) ← holding [ov] (getMethod ov m pl)
      callWith pos f first (backTo pos (starEach (e :: es) X.env)) (backToKw pos (keywordEach [] X.env))) := by rfl) : DX X (.Call (.Attribute o m apos) (e :: es) [] pos) δ Φ Ψ := fun pn xe σ H Q E en kk kx hx pins s I => by
  obtain ⟨f, fd, ps, cl, me, F, hb, hn⟩ := C.ex
  refine PySem.W.methodCall_KW (pl := pl) (thn (h pn xe σ H (fun v H1 => ∃ d, (∃ l, d = .obj c l ∧ DA (X.tr pn xe) (e :: es) δ fun ds => sp (d :: ds) Φ Ψ) ∧ Kp X.K H H1 ∧ Dat X.K H1 v d) en (fun d v H1 q k1 d1 => ⟨d, q, k1, d1⟩) pins s I) fun u s1 ⟨v, H1, I1, rx, d, ⟨l, ed, q⟩, k1, d1⟩ => ?_) ht
  subst ed
  cases d1 with
  | @obj a dx _ fs _ hh hl =>
    obtain rfl : u = Value.ref a := rx
    refine getmeth_ok (X := X.tr pn xe) I1 hh cl me (datF_no hl hn) ?_
    refine PySem.W.callWith_K (first := [.ref a]) (h₀ := X.base) I.ok.mod.kin me.kp (thn (q σ H1 (fun vs H2 => ∃ ds, sp (.obj c l :: ds) Φ Ψ ∧ Kp X.K H1 H2 ∧ DatL X.K H2 vs ds) (en.keep k1) (fun ds vs H2 q k2 d2 => ⟨ds, q, k2, d2⟩) pos pins s1 I1) fun us s2 ⟨vs, H2, I2, r, ds, q2, k2, d2⟩ => ⟨I2.kIn, ?_⟩) hst hpl
    have now : toSp X.K sp (.ref a :: vs) H2 Q E := ⟨.obj c l :: ds, Φ, Ψ, .cons (.obj (k2.st _ _ hh trivial) (hl.keep k2)) d2, ((en.keep k1).keep k2).1, q2, fun d u H3 p k3 hd => kk d u H3 p ((k1.trans k2).trans k3) hd, fun c ds dx fs H' p k3 => kx c ds dx fs H' p ((k1.trans k2).trans k3)⟩
    have r2 : Vals (V.ref a :: vs) (Value.ref a :: us) := .cons rfl r
    have bd := hb s2 (.ref a :: us) I2.kIn (by rw [List.append_nil]; exact r2.length.symm.trans (F.len _ _ _ _ now))
    rw [List.append_nil] at bd
    refine wpAny_call (codeAny_mono (F.run X.A X.stack s2 H2 ⟨.ref a :: us, []⟩ _ _ _ E hr (Inv.env0 (X := X.tr pn xe) I2) bd r2 now) fun R s' hq => ?_)
    have z := back_at (X := X.tr pn xe) hx I2 hq
    cases R with
    | error y => exact z
    | ok fl =>
      cases fl with
      | ret u => exact z
      | next => exact z.elim
      | brk => exact z.elim
      | cont => exact z.elim
end
/-! ### try: e / except C as n: suite -/
section
variable {X : Cx} {δ : List Sl} {Δ : DEnds} {x n : Str} {C : Addr} {suite : List Stmt} {b₀ : Stmt} {np pos pos' epos : Pos} {i : Nat} {e : Expr}
theorem ds_try (sel : Nat → Bool) (hst : X.stack = X.env :: X.outer) (hfr : X.env.frame = some X.env.locals) (hN : X.N.Nodup) (hi : X.N[i]? = some n) (hln : X.env.kindOf n = some .local) (hg : Gl X x) (hm : X.mg x = some (.ref C))
    (hb : DX X e δ (fun _ => Δ.nx δ) fun c ds => ∃ b, PySem.W.exmOne X.K (.ref (xA X.K c)) (.ref C) = some b ∧ b = true ∧
      ∀ (a dx : Addr) (oe : Obj) (pn : List (Addr × Obj)), Zc (.ref (xA X.K c)) (some dx) oe → (∃ vs, oe.data = .fields vs) → DSs (X.suite a ((a, oe) :: pn)) (b₀ :: suite) (δ.set i (.v (.exn a dx c ds))) { nx := fun δ' => Δ.nx (δ'.set i .no), rt := Δ.rt })
    (hdb : (x == ("__debug__" : Str)) = false := by decide) (hs : swapsWith e none epos.line X.env = pure false := by rfl) : DS X (.Try [.Expr e epos] [.ExceptHandler (some (.Name x np)) (some n) (b₀ :: suite) pos'] [] [] pos) δ Δ := fun H0 σ H Dn W tk s k pins sh I => by
  refine (ps_try_as (X := X) (i := i) (tb := fun W' D' σ' H' => ∀ pn xe, Takes (X.tr pn xe) W' → tSs (X.tr pn xe) [.Expr e epos] D' σ' H') (ts := fun a cls d D' σ' H' => ∀ oe pn, Zc cls d oe → (∃ vs, oe.data = .fields vs) → tSs (X.suite a ((a, oe) :: pn)) (b₀ :: suite) D' σ' H')
    hst hfr hN hi hln ⟨hg, hdb, .inl hm⟩ tk (fun W' pn xe tk' _ => ⟨fun pins s _ _ _ I h => h pn xe tk' pins s I⟩) (fun a oe cls d pn hz hf => ⟨fun pins s _ _ _ I h => h oe pn hz hf pins s I⟩)).run pins sh σ H Dn I ?_
  intro pn xe tk'
  refine fun pins2 s2 I2 => (pss_one (X := X.tr pn xe) (t := fun D' σ' H' => D' = Dn ∧ σ' = σ ∧ H' = H) ⟨fun pins3 s3 σ3 H3 D3 I3 ⟨e1, e2, e3⟩ => ?_⟩).run pins2 s2 σ H Dn I2 ⟨rfl, rfl, rfl⟩
  subst e1 e2 e3
  refine wpAny_Expr_any (thn (hb pn xe σ3 H3 (fun _ H' => D3.nx σ3 H') (fun cls d H' => wAs X.K (.ref C) i (fun a cls d D' σ' H' => ∀ oe pn, Zc cls d oe → (∃ vs, oe.data = .fields vs) → tSs (X.suite a ((a, oe) :: pn)) (b₀ :: suite) D' σ' H') W D3 cls d σ3 H') s.en (fun d v H' p kp _ => k.nx _ _ H' p (s.keep kp)) (fun c ds dx fs H' ⟨b, eb, bt, p⟩ kp hx hl => ?_) (fun pins4 H4 s4 er s5 I4 hc => tk' _ _ (XE.of_call I4 (fun cls d H' h => h) hc)) pins3 s3 I3) fun v s4 ⟨z, H1, I1, r1, q1⟩ => ⟨σ3, H1, I1, q1⟩) I3.quiet hs
  refine ⟨b, eb, fun _ a na oe pn2 hz hf => ?_, fun z => by rw [bt] at z; cases z⟩
  have s4 := (s.keep kp).set i (v := .ref a) (d := .exn a dx c ds) (.exn hx hl)
  exact p a dx oe pn2 hz hf H0 _ H' _ (fun _ _ _ _ => False) LamX.takes0 s4 ⟨fun δ' σ' H'' q s' => k.nx _ _ H'' q (s'.no i none), fun d v H'' q kp' hd => k.rt d v H'' q kp' hd, fun _ _ _ q => q.elim, fun _ _ _ q => q.elim, fun _ _ _ _ _ _ q => q.elim⟩
end
end Fr
end
-- FrL4
section
set_option Elab.async false
set_option linter.all false
set_option maxRecDepth 100000
/-! The walks: refusals, paper_of, papers drawn and made. -/
namespace Fr
open PySem PySem.Spec PyProof.Rows L2
-- macros
local macro_rules | `(tactic| walk_at "side") => `(tactic| first | assumption | omega | rfl | decide)
local macro_rules | `(tactic| walk_at "cm") => `(tactic| first | exact .inl ⟨by omega, by omega⟩ | exact .inr ⟨by omega, by omega⟩)
local macro_rules | `(tactic| walk_at "len") => `(tactic| first | decide | (show _ ≤ sizeLine; simp only [List.length_cons, List.length_nil]; decide))
local macro_rules | `(tactic| walk_at "add") => `(tactic| first | refine od_addI ?_ | refine od_addT (by walk_at "side") ?_ | refine od_addL (by walk_at "side") ?_)
local macro_rules | `(tactic| walk_at "mul") => `(tactic| first | refine od_mulI (by walk_at "cm") ?_ | refine od_mulT (by walk_at "side") (by walk_at "side") (by walk_at "side") ?_)
local macro_rules | `(tactic| walk_at "ok") => `(tactic| first | assumption | (simp only [D.ok, okL, Bool.and_true, Bool.true_and]; first | done | assumption | decide))
local macro_rules | `(tactic| walk_at "eq") => `(tactic| first | refine od_eqII ?_ | refine od_eq 20 20 (by walk_at "ok") (by walk_at "ok") (by omega) ?_)
local macro_rules | `(tactic| walk_at "ne") => `(tactic| first | refine od_neII ?_ | refine od_ne 20 20 (by walk_at "ok") (by walk_at "ok") (by omega) ?_)
local macro_rules | `(tactic| walk_at "slice") => `(tactic| first | refine .inl ⟨_, rfl, ?_⟩ | refine .inr ⟨_, rfl, ?_⟩)
local macro_rules | `(tactic| walk_at "vis") => `(tactic| first | exact .inl rfl | exact .inr (.inl rfl) | exact .inr (.inr rfl))
local macro_rules | `(tactic| walk_at "loc") => `(tactic| first | exact .inl rfl | exact .inr rfl)
local macro_rules | `(tactic| walk_at "locf") => `(tactic| first | exact .inr rfl | exact .inl rfl)
-- end macros
section
variable {P : Program} {w : World} {K : PySem.W.Frag} {mg : Str → Option Value} {base : Heap}
/-! ### refusals -/
theorem exm_P (T : Tx K mg base) : PySem.W.exmOne K (.ref (xA K 2)) (.ref (He.ga K "InvalidPaper")) = some true := He.exm_ok (T.d.fact 98 (f := .exm "InvalidPaper" "InvalidPaper" true) rfl)
theorem exm_W (T : Tx K mg base) : PySem.W.exmOne K (.ref (xA K 0)) (.ref (He.ga K "InvalidWord")) = some true := He.exm_ok (T.d.fact 91 (f := .exm "InvalidWord" "InvalidWord" true) rfl)
theorem exm_S (T : Tx K mg base) : PySem.W.exmOne K (.ref (xA K 1)) (.ref (He.ga K "InvalidSquare")) = some true := He.exm_ok (T.d.fact 94 (f := .exm "InvalidSquare" "InvalidSquare" true) rfl)
theorem no_part (T : Tx K mg base) : PySem.W.findIn K (.ref (xA K 2)) "part" = some none := He.noat_ok (T.d.fact 96 (f := .noat "InvalidPaper" "part") rfl)
theorem no_place (T : Tx K mg base) : PySem.W.findIn K (.ref (xA K 2)) "place" = some none := He.noat_ok (T.d.fact 97 (f := .noat "InvalidPaper" "place") rfl)
theorem no_val0 (T : Tx K mg base) : PySem.W.findIn K (.ref (xA K 0)) "value" = some none := He.noat_ok (T.d.fact 90 (f := .noat "InvalidWord" "value") rfl)
theorem no_val1 (T : Tx K mg base) : PySem.W.findIn K (.ref (xA K 1)) "value" = some none := He.noat_ok (T.d.fact 93 (f := .noat "InvalidSquare" "value") rfl)
def tabTold (n f g : D) : D := match tabFault n f g with
  | some p => .tup [.str p, .int 0]
  | none => .tup [.str "none", .int 0]
def sumTold (w q ws qs : D) : D := match sumFault w q ws qs with
  | some (p, k) => .tup [.str p, k]
  | none => .tup [.str "none", .int 0]
def sp__law_table_refusal : DSp := fun ds Φ _ => ∃ n f g, ds = [n, f, g] ∧ n.ok 9 = true ∧ f.ok 9 = true ∧ g.ok 9 = true ∧ Φ (tabTold n f g)
theorem sc__law_table_refusal : FnScope ["_law_n", "_law_f", "_law_g", "e"] ["_law_n", "_law_f", "_law_g"] (defScope s_Ltable_refusal) := ⟨rfl, rfl, rfl, by decide +kernel, rfl, by decide +kernel, by decide +kernel⟩
theorem ok__law_table_refusal (T : Tx K mg base) : Cal P w K mg base 5 "_law_table_refusal" sp__law_table_refusal := by
  refine cal_of T 41 rfl rfl sc__law_table_refusal (fun _ _ _ _ _ _ us hl => match us, hl with | [_, _, _], _ => rfl) (fun ds Φ Ψ ⟨_, _, _, h, _⟩ => by rw [h] <;> rfl) fun cdv A outer s H E hcd hr ds Φ Ψ h => ?_
  have sc := sc__law_table_refusal
  obtain ⟨n, f, g, rfl, hn, hf, hg, hΦ⟩ := h
  have M := more_parts T.m
  have X2 := exIs_of T 2
  refine dss_then (fun δ' => tabFault n f g = none) ?_ fun δ' hnone => ?_
  · refine ds_try (i := 3) (C := He.ga K "InvalidPaper") (fun _ => true) rfl rfl sc.nd rfl rfl rfl (T.glo 53 rfl) ?_
    refine dx_make (mkd_T T) hr rfl fun pn xe => ?_
    refine da_cons ?_
    refine de_var 0 rfl (.inl rfl) rfl ?_
    refine da_cons ?_
    refine de_var 1 rfl (.inl rfl) rfl ?_
    refine da_cons ?_
    refine de_var 2 rfl (.inl rfl) rfl ?_
    refine da_nil ⟨n, f, g, rfl, hn, hf, hg, fun p hp => ⟨true, exm_P T, rfl, fun a dx oe pn2 hz hfl => ?_⟩, fun hnone => hnone⟩
    refine dss_one (ds_ret ?_)
    refine de_if ?_
    refine dt_W ?_
    refine dw_and ?_
    refine dt_val (by intro _; rfl) ?_
    refine de_isX (c := 2) (b := true) X2 hz hfl rfl (b_isinstance T) (by decide +kernel) rfl (T.glo 55 rfl) (kit_ok M.pr) ?_
    refine de_var 3 rfl (.inl rfl) rfl ⟨dx, _, rfl, rfl, isBl_of ⟨fun _ => ?_, fun z => (by cases z)⟩⟩
    refine dw_one_and ?_
    refine dt_not ?_
    refine dt_val (by intro _; rfl) ?_
    refine de_isX (c := 2) (b := false) X2 hz hfl rfl (b_isinstance T) (by decide +kernel) rfl (T.glo 54 rfl) (kit_ok M.ps) ?_
    refine de_var 3 rfl (.inl rfl) rfl ⟨dx, _, rfl, rfl, isBl_of ⟨fun _ => ?_, fun z => (by cases z)⟩⟩
    refine de_tup ?_
    refine da_cons ?_
    refine de_xf (c := 2) X2 (no_part T) hz hfl ?_
    refine de_var 3 rfl (.inl rfl) rfl ⟨dx, _, _, rfl, rfl, rfl, ?_⟩
    refine da_cons ?_
    refine de_xf (c := 2) X2 (no_place T) hz hfl ?_
    refine de_var 3 rfl (.inl rfl) rfl ⟨dx, _, _, rfl, rfl, rfl, ?_⟩
    refine da_nil ⟨by walk_at "len", ?_⟩
    unfold tabTold at hΦ
    rw [hp] at hΦ
    exact hΦ
  · refine dss_one (ds_ret ?_)
    refine de_tup ?_
    refine da_cons ?_
    refine de_str ?_
    refine da_cons ?_
    refine de_int ?_
    refine da_nil ⟨by walk_at "len", ?_⟩
    unfold tabTold at hΦ
    rw [hnone] at hΦ
    exact hΦ
def sp__law_sums_refusal : DSp := fun ds Φ _ => ∃ v q ws qs, ds = [v, q, ws, qs] ∧ v.ok 9 = true ∧ q.ok 9 = true ∧ ws.ok 9 = true ∧ qs.ok 9 = true ∧ Φ (sumTold v q ws qs)
theorem sc__law_sums_refusal : FnScope ["_law_word_here", "_law_square_here", "_law_words", "_law_squares", "e"] ["_law_word_here", "_law_square_here", "_law_words", "_law_squares"] (defScope s_Lsums_refusal) := ⟨rfl, rfl, rfl, by decide +kernel, rfl, by decide +kernel, by decide +kernel⟩
theorem ok__law_sums_refusal (T : Tx K mg base) : Cal P w K mg base 14 "_law_sums_refusal" sp__law_sums_refusal := by
  refine cal_of T 42 rfl rfl sc__law_sums_refusal (fun _ _ _ _ _ _ us hl => match us, hl with | [_, _, _, _], _ => rfl) (fun ds Φ Ψ ⟨_, _, _, _, h, _⟩ => by rw [h] <;> rfl) fun cdv A outer s H E hcd hr ds Φ Ψ h => ?_
  have sc := sc__law_sums_refusal
  obtain ⟨v, q, ws, qs, rfl, hv, hq, hws, hqs, hΦ⟩ := h
  have M := more_parts T.m
  have X2 := exIs_of T 2
  refine dss_then (fun δ' => sumFault v q ws qs = none) ?_ fun δ' hnone => ?_
  · refine ds_try (i := 4) (C := He.ga K "InvalidPaper") (fun _ => true) rfl rfl sc.nd rfl rfl rfl (T.glo 53 rfl) ?_
    refine dx_makeK (mkk_S T) hr rfl fun pn xe => ?_
    refine da_cons ?_
    refine de_var 0 rfl (.inl rfl) rfl ?_
    refine da_cons ?_
    refine de_var 1 rfl (.inl rfl) rfl ?_
    refine da_nil ?_
    refine dk_cons ?_
    refine de_var 2 rfl (.inl rfl) rfl ?_
    refine dk_cons ?_
    refine de_var 3 rfl (.inl rfl) rfl ?_
    refine dk_nil ⟨rfl, rfl, v, q, ws, qs, rfl, hv, hq, hws, hqs, fun p k hp => ⟨true, exm_P T, rfl, fun a dx oe pn2 hz hfl => ?_⟩, fun hnone => hnone⟩
    refine dss_one (ds_ret ?_)
    refine de_if ?_
    refine dt_W ?_
    refine dw_and ?_
    refine dt_val (by intro _; rfl) ?_
    refine de_isX (c := 2) (b := true) X2 hz hfl rfl (b_isinstance T) (by decide +kernel) rfl (T.glo 55 rfl) (kit_ok M.pr) ?_
    refine de_var 4 rfl (.inl rfl) rfl ⟨dx, _, rfl, rfl, isBl_of ⟨fun _ => ?_, fun z => (by cases z)⟩⟩
    refine dw_one_and ?_
    refine dt_not ?_
    refine dt_val (by intro _; rfl) ?_
    refine de_isX (c := 2) (b := false) X2 hz hfl rfl (b_isinstance T) (by decide +kernel) rfl (T.glo 54 rfl) (kit_ok M.ps) ?_
    refine de_var 4 rfl (.inl rfl) rfl ⟨dx, _, rfl, rfl, isBl_of ⟨fun _ => ?_, fun z => (by cases z)⟩⟩
    refine de_tup ?_
    refine da_cons ?_
    refine de_xf (c := 2) X2 (no_part T) hz hfl ?_
    refine de_var 4 rfl (.inl rfl) rfl ⟨dx, _, _, rfl, rfl, rfl, ?_⟩
    refine da_cons ?_
    refine de_xf (c := 2) X2 (no_place T) hz hfl ?_
    refine de_var 4 rfl (.inl rfl) rfl ⟨dx, _, _, rfl, rfl, rfl, ?_⟩
    refine da_nil ⟨by walk_at "len", ?_⟩
    unfold sumTold at hΦ
    rw [hp] at hΦ
    exact hΦ
  · refine dss_one (ds_ret ?_)
    refine de_tup ?_
    refine da_cons ?_
    refine de_str ?_
    refine da_cons ?_
    refine de_int ?_
    refine da_nil ⟨by walk_at "len", ?_⟩
    unfold sumTold at hΦ
    rw [hnone] at hΦ
    exact hΦ
/-! ### papers -/
theorem sq_ites (l : List Int) (m z : List Int) : (.tup (l.map fun b => if b = 1 then wd m else wd z) : D) = sq (l.map fun b => if b = 1 then m else z) := by
  rw [sq, List.map_map]
  congr 1
  refine List.map_congr_left fun b _ => ?_
  show (if b = 1 then wd m else wd z) = wd (if b = 1 then m else z)
  by_cases h : b = 1
  · rw [if_pos h, if_pos h]
  · rw [if_neg h, if_neg h]
theorem fault_none {n : Nat} {l : List Int} {L : List (List Int)} (hl : WdI n l) (hL : SqI n L) (h1 : 1 ≤ n) (h2 : n ≤ 12) {ws qs : D} (hw : ffD (fun d => isWord d n) ws = .non) (hq : ffD (fun d => isMat d n) qs = .non) : sumFault (wd l) (sq L) ws qs = none := by
  have e : lenD (wd l) = (n : Int) := by rw [lenD_wd, hl.len]
  unfold sumFault
  rw [if_pos (wd_some hl.bits (by rw [hl.len]; exact h1) (by rw [hl.len]; exact h2)), e, if_pos (sq_isMat hL h1 h2), hw, hq]
def sp_paper_of : DSp := fun ds Φ _ => ∃ l : List Int, ds = [wd l] ∧ bitsI l ∧ 2 ≤ l.length ∧ l.length ≤ 12 ∧ ∀ Q, Φ (SObj l.length l Q [] [])
theorem sc_paper_of : FnScope ["word"] ["word"] (defScope s_paper_of) := ⟨rfl, rfl, rfl, by decide +kernel, rfl, by decide +kernel, by decide +kernel⟩
theorem ok_paper_of (T : Tx K mg base) : Cal P w K mg base 14 "paper_of" sp_paper_of := by
  refine cal_of T 23 rfl rfl sc_paper_of (fun _ _ _ _ _ _ us hl => match us, hl with | [_], _ => rfl) (fun ds Φ Ψ ⟨_, h, _⟩ => by rw [h] <;> rfl) fun cdv A outer s H E hcd hr ds Φ Ψ h => ?_
  have sc := sc_paper_of
  obtain ⟨l, rfl, hl, h2, h12, hΦ⟩ := h
  have hd := ok_wd l 8
  refine dss_cons (ds_if (DT.imp (Φ := fun b => b = false) ?test fun b hb => ⟨fun h => (by rw [hb] at h; cases h), fun _ => dss_nil ?go⟩))
  case go =>
    refine dss_one (ds_ret ?_)
    refine de_makeD (mkd_S T) hr rfl ?_
    refine da_cons ?_
    refine de_var 0 rfl (.inl rfl) rfl ?_
    refine da_cons ?_
    refine de_call (ok_square_of T) (hr.mono (by decide)) rfl ?_
    refine da_cons ?_
    refine de_var 0 rfl (.inl rfl) rfl ?_
    refine da_cons ?_
    refine de_var 0 rfl (.inl rfl) rfl ?_
    refine da_nil ?_
    refine ⟨l, l, rfl, hl, hl, h2, h12, rfl, ?_⟩
    refine da_nil ?_
    rw [sq_ites]
    have hL : SqI l.length (l.map fun b => if b = 1 then l else List.replicate l.length 0) := by
      refine ⟨by rw [List.length_map], fun r hr => ?_⟩
      obtain ⟨b, _, rfl⟩ := List.mem_map.mp hr
      by_cases hb : b = 1
      · rw [if_pos hb]
        exact ⟨rfl, hl⟩
      · rw [if_neg hb]
        exact ⟨List.length_replicate, fun x hx => by rw [List.eq_of_mem_replicate hx]; exact .inl rfl⟩
    have none_ := fault_none (ws := .tup []) (qs := .tup []) (⟨rfl, hl⟩ : WdI l.length l) hL (by omega) h12 rfl rfl
    refine ⟨_, _, .tup [], .tup [], rfl, hd, ok_sq _ 7, by rw [ok_tup]; rfl, by rw [ok_tup]; rfl, fun p k hp => ?_, fun _ => ?_⟩
    · rw [none_] at hp
      cases hp
    · rw [lenD_wd]
      exact hΦ _
  refine dt_W ?_
  refine dw_or ?_
  refine dt_not ?_
  refine dt_val (by intro _; rfl) ?_
  refine de_isT rfl (b_isinstance T) (by decide +kernel) rfl (b_tuple T) (by decide +kernel) kit_tup ?_
  refine de_var 0 rfl (.inl rfl) rfl ?_
  refine ⟨rfl, isBl_of ⟨fun hb => (by cases hb), fun _ => ?_⟩⟩
  refine dw_or ?_
  refine dt_not ?_
  refine dt_le3 ?_
  refine de_int ?_
  refine de_callB call_len_seq rfl (b_len T) (by decide +kernel) ?_
  refine da_cons ?_
  refine de_var 0 rfl (.inl rfl) rfl ?_
  refine da_nil ?_
  refine cd_len rfl ?_
  rw [List.length_map]
  refine ⟨_, _, rfl, rfl, fun hb => ?_, fun hb => absurd (by omega : (1 : Int) ≤ l.length) hb⟩
  refine de_int ?_
  refine ⟨_, rfl, fun h => ?_, fun _ => ?_⟩
  · rw [decide_eq_true (by omega : (l.length : Int) ≤ 12)] at h
    cases h
  refine dw_one_or ?_
  refine dt_not ?_
  refine dt_val (by intro _; rfl) ?_
  refine de_call (ok_is_word T) (hr.mono (by decide)) rfl ?_
  refine da_cons ?_
  refine de_var 0 rfl (.inl rfl) rfl ?_
  refine da_cons ?_
  refine de_callB call_len_seq rfl (b_len T) (by decide +kernel) ?_
  refine da_cons ?_
  refine de_var 0 rfl (.inl rfl) rfl ?_
  refine da_nil ?_
  refine cd_len rfl ?_
  rw [List.length_map]
  refine da_nil ?_
  refine ⟨_, _, rfl, hd, isBl_of ?_⟩
  rw [wd_word hl (by omega) h12 rfl]
  rfl
def sp__law_table_paper : DSp := fun ds Φ _ => ∃ n : Nat, ds = [.tape, .int n] ∧ 1 ≤ n ∧ n ≤ 3 ∧ ∀ f g, WdI (2 ^ n) f → WdI (2 ^ (n * n)) g → Φ (PTd n f g)
theorem sc__law_table_paper : FnScope ["_law_tape_here", "_law_n"] ["_law_tape_here", "_law_n"] (defScope s_Ltable_paper) := ⟨rfl, rfl, rfl, by decide +kernel, rfl, by decide +kernel, by decide +kernel⟩
theorem ok__law_table_paper (T : Tx K mg base) : Cal P w K mg base 4 "_law_table_paper" sp__law_table_paper := by
  refine cal_of T 39 rfl rfl sc__law_table_paper (fun _ _ _ _ _ _ us hl => match us, hl with | [_, _], _ => rfl) (fun ds Φ Ψ ⟨_, h, _⟩ => by rw [h] <;> rfl) fun cdv A outer s H E hcd hr ds Φ Ψ h => ?_
  have sc := sc__law_table_paper
  obtain ⟨n, rfl, h1, h3, hΦ⟩ := h
  have e1 : (1 : Int) * 2 ^ (n : Int).toNat = ((2 ^ n : Nat) : Int) := by
    rw [Int.toNat_natCast, Int.one_mul]
    norm_cast
  have e2 : (1 : Int) * 2 ^ ((n : Int) * n).toNat = ((2 ^ (n * n) : Nat) : Int) := by
    rw [← Int.natCast_mul, Int.toNat_natCast, Int.one_mul]
    norm_cast
  have b1 : 2 ^ n ≤ 1000 ∧ 2 ^ (n * n) ≤ 1000 := by
    have : n = 1 ∨ n = 2 ∨ n = 3 := by omega
    rcases this with rfl | rfl | rfl <;> decide
  have nn : (n : Int) * n ≤ 9 := by
    have : n = 1 ∨ n = 2 ∨ n = 3 := by omega
    rcases this with rfl | rfl | rfl <;> decide
  refine dss_one (ds_ret ?_)
  refine de_dict ["n", "f", "g"] (pps_cons pe_str pe_E (pps_cons pe_str pe_E (pps_cons pe_str pe_E pps_nil))) rfl rfl (by simp) (by decide) rfl (fun vs hl => match vs, hl with | [_, _, _], _ => rfl) (by decide +kernel) ?_
  refine de_var 1 rfl (.inl rfl) rfl ⟨by rw [D.pl], ?_⟩
  refine de_call (ok__law_word T) hr rfl ?_
  refine da_cons ?_
  refine de_var 0 rfl (.inl rfl) rfl ?_
  refine da_cons ?_
  refine de_op op_shl ?_
  refine de_int ?_
  refine de_var 1 rfl (.inl rfl) rfl ?_
  refine od_shlI ⟨by omega, by omega, by decide⟩ ?_
  refine da_nil ?_
  rw [e1]
  refine ⟨_, rfl, b1.1, fun f hf => ⟨D.ok_pl (ok_wd f 0), ?_⟩⟩
  refine de_call (ok__law_word T) hr rfl ?_
  refine da_cons ?_
  refine de_var 0 rfl (.inl rfl) rfl ?_
  refine da_cons ?_
  refine de_op op_shl ?_
  refine de_int ?_
  refine de_op op_mulU ?_
  refine de_var 1 rfl (.inl rfl) rfl ?_
  refine de_var 1 rfl (.inl rfl) rfl ?_
  refine od_mulI (.inl ⟨by omega, by omega⟩) ?_
  refine od_shlI ⟨Int.mul_nonneg (by omega) (by omega), by omega, by decide⟩ ?_
  refine da_nil ?_
  rw [e2]
  exact ⟨_, rfl, b1.2, fun g hg => ⟨D.ok_pl (ok_wd g 0), hΦ f g hf hg⟩⟩
def sp__law_made : DSp := fun ds Φ _ => ∃ n v q ws qs, ds = [PSd n v q ws qs] ∧ v.length = n ∧ sumFault (wd v) (sq q) (.tup (ws.map wd)) (.tup (qs.map sq)) = none ∧ Φ (SObj n v q ws qs)
theorem sc__law_made : FnScope ["_law_paper"] ["_law_paper"] (defScope s_Lmade) := ⟨rfl, rfl, rfl, by decide +kernel, rfl, by decide +kernel, by decide +kernel⟩
theorem ok__law_made (T : Tx K mg base) : Cal P w K mg base 14 "_law_made" sp__law_made := by
  refine cal_of T 40 rfl rfl sc__law_made (fun _ _ _ _ _ _ us hl => match us, hl with | [_], _ => rfl) (fun ds Φ Ψ ⟨_, _, _, _, _, h, _⟩ => by rw [h] <;> rfl) fun cdv A outer s H E hcd hr ds Φ Ψ h => ?_
  have sc := sc__law_made
  have hu := u1_of hr
  obtain ⟨n, v, q, ws, qs, rfl, hn, hno, hΦ⟩ := h
  refine dss_cons (ds_if ?_)
  refine dt_dic hu ?_
  refine de_str ?_
  refine de_var 0 rfl (.inl rfl) rfl ?_
  refine ⟨_, _, rfl, rfl, fun z => (by cases z), fun _ => dss_nil ?_⟩
  refine dss_one (ds_ret ?_)
  refine de_makeK (mkk_S T) hr rfl ?_
  refine da_cons ?_
  refine de_dget hu ?_
  refine de_var 0 rfl (.inl rfl) rfl ?_
  refine de_str ?_
  refine ⟨_, _, _, rfl, rfl, rfl, ?_⟩
  refine da_cons ?_
  refine de_dget hu ?_
  refine de_var 0 rfl (.inl rfl) rfl ?_
  refine de_str ?_
  refine ⟨_, _, _, rfl, rfl, rfl, ?_⟩
  refine da_nil ?_
  refine dk_cons ?_
  refine de_dget hu ?_
  refine de_var 0 rfl (.inl rfl) rfl ?_
  refine de_str ?_
  refine ⟨_, _, _, rfl, rfl, rfl, ?_⟩
  refine dk_cons ?_
  refine de_dget hu ?_
  refine de_var 0 rfl (.inl rfl) rfl ?_
  refine de_str ?_
  refine ⟨_, _, _, rfl, rfl, rfl, ?_⟩
  refine dk_nil ⟨rfl, rfl, _, _, _, _, rfl, ok_wd v 8, ok_sq q 7, wds_ok ws 7, sqs_ok qs 6, fun p k hp => ?_, fun _ => ?_⟩
  · rw [hno] at hp
    cases hp
  · rw [lenD_wd, hn]
    exact hΦ
end
end Fr
end
-- FrL5
section
set_option Elab.async false
namespace Fr
open PySem PySem.Spec PyProof.Rows L2
-- macros
local macro_rules | `(tactic| walk_at "side") => `(tactic| first | assumption | omega | rfl | decide)
local macro_rules | `(tactic| walk_at "cm") => `(tactic| first | exact .inl ⟨by omega, by omega⟩ | exact .inr ⟨by omega, by omega⟩)
local macro_rules | `(tactic| walk_at "len") => `(tactic| first | decide | (show _ ≤ sizeLine; simp only [List.length_cons, List.length_nil]; decide))
local macro_rules | `(tactic| walk_at "add") => `(tactic| first | refine od_addI ?_ | refine od_addT (by walk_at "side") ?_ | refine od_addL (by walk_at "side") ?_)
local macro_rules | `(tactic| walk_at "mul") => `(tactic| first | refine od_mulI (by walk_at "cm") ?_ | refine od_mulT (by walk_at "side") (by walk_at "side") (by walk_at "side") ?_)
local macro_rules | `(tactic| walk_at "ok") => `(tactic| first | assumption | (simp only [D.ok, okL, Bool.and_true, Bool.true_and]; first | done | assumption | decide))
local macro_rules | `(tactic| walk_at "eq") => `(tactic| first | refine od_eqII ?_ | refine od_eq 20 20 (by walk_at "ok") (by walk_at "ok") (by omega) ?_)
local macro_rules | `(tactic| walk_at "ne") => `(tactic| first | refine od_neII ?_ | refine od_ne 20 20 (by walk_at "ok") (by walk_at "ok") (by omega) ?_)
local macro_rules | `(tactic| walk_at "slice") => `(tactic| first | refine .inl ⟨_, rfl, ?_⟩ | refine .inr ⟨_, rfl, ?_⟩)
local macro_rules | `(tactic| walk_at "vis") => `(tactic| first | exact .inl rfl | exact .inr (.inl rfl) | exact .inr (.inr rfl))
local macro_rules | `(tactic| walk_at "loc") => `(tactic| first | exact .inl rfl | exact .inr rfl)
local macro_rules | `(tactic| walk_at "locf") => `(tactic| first | exact .inr rfl | exact .inl rfl)
-- end macros
theorem atI_last {α : Type} {l : List α} {z : α} (h : l.getLast? = some z) : atI l (-1) = some z := by
  have hl : 0 < l.length := by
    cases l with
    | nil => cases h
    | cons x r => exact Nat.succ_pos _
  unfold atI ixN
  rw [List.getLast?_eq_getElem?] at h
  rw [if_neg (by omega), if_pos (by omega)]
  rw [show ((-1 : Int) + (l.length : Int)).toNat = l.length - 1 by omega]
  exact h
section
variable {P : Program} {w : World} {K : PySem.W.Frag} {mg : Str → Option Value} {base : Heap}
def sp__law_wrong_row : DSp := fun ds Φ _ => ∃ (rows : List D) (bad : D), ds = [.tape, .tup rows, bad] ∧ rows.length ≤ 100 ∧ ∀ (j : Nat) (b : D), j ≤ rows.length → (b = bad ∨ 0 < j ∧ (rows[j - 1]? = some b ∨ rows[0]? = some b)) → Φ (.tup [.tup (rows.take j ++ [b] ++ rows.drop j), .int j])
theorem sc__law_wrong_row : FnScope ["_law_tape_here", "_law_rows_here", "_law_bad", "_law_at"] ["_law_tape_here", "_law_rows_here", "_law_bad"] (defScope s_Lwrong_row) := ⟨rfl, rfl, rfl, by decide +kernel, rfl, by decide +kernel, by decide +kernel⟩
theorem ok__law_wrong_row (T : Tx K mg base) : Cal P w K mg base 4 "_law_wrong_row" sp__law_wrong_row := by
  refine cal_of T 47 rfl rfl sc__law_wrong_row (fun _ _ _ _ _ _ us hl => match us, hl with | [_, _, _], _ => rfl) (fun ds Φ Ψ ⟨_, _, h, _⟩ => by rw [h] <;> rfl) fun cdv A outer s H E hcd hr ds Φ Ψ h => ?_
  have sc := sc__law_wrong_row
  obtain ⟨rows, bad, rfl, hlen, hΦ⟩ := h
  have big : (300 : Nat) ≤ sizeLine := by decide
  refine dss_cons (ds_set 3 sc.nd rfl (.inl rfl) ?_)
  refine de_call (ok__law_draw T) (hr.mono (by decide)) rfl ?_
  refine da_cons ?_
  refine de_var 0 rfl (.inl rfl) rfl ?_
  refine da_cons ?_
  refine de_op op_addU ?_
  refine de_callB call_len_seq rfl (b_len T) (by decide +kernel) ?_
  refine da_cons ?_
  refine de_var 1 rfl (.inl rfl) rfl ?_
  refine da_nil ?_
  refine cd_len rfl ?_
  refine de_int ?_
  refine od_addI ?_
  refine da_nil ?_
  refine ⟨_, rfl, by omega, fun i i0 i1 => ?_⟩
  obtain ⟨j, rfl⟩ : ∃ j : Nat, i = j := ⟨i.toNat, by omega⟩
  have jl : j ≤ rows.length := by omega
  refine dss_then (fun δ' => ∃ b, δ' = [.b .tape, .b (.tup rows), b, .v (.int j)] ∧ ∃ d, b.val = some d ∧ (d = bad ∨ 0 < j ∧ (rows[j - 1]? = some d ∨ rows[0]? = some d))) ?_ fun δ' ⟨b, e, d, hb, hd⟩ => ?_
  · refine ds_if ?_
    refine dt_W ?_
    refine dw_and ?_
    refine dt_cmpO op_gt rfl ?_
    refine de_var 3 rfl (.inl rfl) rfl ?_
    refine de_int ?_
    refine od_gtI ?_
    refine isBl_of ⟨fun hb => ?_, fun hb => ?_⟩
    · have j0 : 0 < j := by have := of_decide_eq_true hb; omega
      obtain ⟨x, hx⟩ : ∃ x, rows[j - 1]? = some x := ⟨_, List.getElem?_eq_getElem (by omega)⟩
      obtain ⟨y, hy⟩ : ∃ y, rows[0]? = some y := ⟨_, List.getElem?_eq_getElem (by omega)⟩
      refine dw_one_and ?_
      refine dt_cmpO (op_eqD hr.units) rfl ?_
      refine de_call (ok__law_draw T) (hr.mono (by decide)) rfl ?_
      refine da_cons ?_
      refine de_var 0 rfl (.inl rfl) rfl ?_
      refine da_cons ?_
      refine de_int ?_
      refine da_nil ?_
      refine ⟨_, rfl, by omega, fun q q0 q1 => ?_⟩
      refine de_int ?_
      refine od_eqII (isBl_of ⟨fun _ => ?_, fun _ => dss_nil ⟨_, rfl, bad, rfl, .inl rfl⟩⟩)
      refine dss_one (ds_set 2 sc.nd rfl (.inl rfl) ?_)
      refine de_call (ok__law_pick T) (hr.mono (by decide)) rfl ?_
      refine da_cons ?_
      refine de_var 0 rfl (.inl rfl) rfl ?_
      refine da_cons ?_
      refine de_lst ?_
      refine da_cons ?_
      refine de_ix ?_
      refine de_var 1 rfl (.inl rfl) rfl ?_
      refine de_op op_sub ?_
      refine de_var 3 rfl (.inl rfl) rfl ?_
      refine de_int ?_
      refine od_subI ?_
      refine ⟨rows, _, x, .inl rfl, rfl, atI_nat (by omega) (by rw [show ((j : Int) - 1).toNat = j - 1 by omega]; exact hx), ?_⟩
      refine da_cons ?_
      refine de_ix ?_
      refine de_var 1 rfl (.inl rfl) rfl ?_
      refine de_int ?_
      refine ⟨rows, _, y, .inl rfl, rfl, atI_nat (by omega) hy, ?_⟩
      refine da_nil ⟨by walk_at "len", ?_⟩
      refine da_nil ?_
      refine ⟨_, rfl, by simp, fun d hd => ⟨_, rfl, d, rfl, .inr ⟨j0, ?_⟩⟩⟩
      rcases List.mem_cons.mp hd with rfl | hd
      · exact .inl hx
      · rw [List.mem_singleton.mp hd]
        exact .inr hy
    · exact ⟨fun z => (by cases z), fun _ => dss_nil ⟨_, rfl, bad, rfl, .inl rfl⟩⟩
  · subst e
    refine dss_one (ds_ret ?_)
    refine de_tup ?_
    refine da_cons ?_
    refine de_op op_addU ?_
    refine de_op op_addU ?_
    refine de_sl ?_
    refine de_var 1 rfl (.inl rfl) rfl ?_
    refine do_none ?_
    refine do_some ?_
    refine de_var 3 rfl (.inl rfl) rfl ?_
    refine ⟨_, rfl, ?_⟩
    refine .inl ⟨_, rfl, ?_⟩
    rw [cutL_to (by omega), Int.toNat_natCast]
    refine de_tup ?_
    refine da_cons ?_
    refine de_var 2 rfl (.inl rfl) hb ?_
    refine da_nil ⟨by walk_at "len", ?_⟩
    refine od_addT (by rw [List.length_take, List.length_singleton]; omega) ?_
    refine de_sl ?_
    refine de_var 1 rfl (.inl rfl) rfl ?_
    refine do_some ?_
    refine de_var 3 rfl (.inl rfl) rfl ?_
    refine ⟨_, rfl, ?_⟩
    refine do_none ?_
    refine .inl ⟨_, rfl, ?_⟩
    rw [cutL_from (by omega), Int.toNat_natCast]
    refine od_addT (by rw [List.length_append, List.length_take, List.length_singleton, List.length_drop]; omega) ?_
    refine da_cons ?_
    refine de_var 3 rfl (.inl rfl) rfl ?_
    refine da_nil ⟨by walk_at "len", ?_⟩
    exact hΦ j d jl hd
/-- squares with a row that is none -/
def badRow (r : List Int) : List D := [.tup ((r.dropLast).map .int ++ [.int 2]), .tup ((r.dropLast).map .int ++ [.bl true]), .lst (r.map .int), wd r.dropLast, .non, .tup ((r.dropLast).map .int ++ [.str "0"])]
def badSq (L : List (List Int)) (r : List Int) : List D := (badRow r).map fun z => .tup ((L.dropLast).map wd ++ [z])
def sp__law_bad_rows : DSp := fun ds Φ _ => ∃ (L : List (List Int)) (r : List Int), ds = [sq L] ∧ L.getLast? = some r ∧ L.length ≤ 100 ∧ r.length ≤ 100 ∧ Φ (.lst (badSq L r))
theorem sc__law_bad_rows : FnScope ["_law_square_here", "_law_row", "_law_found", "_law_one"] ["_law_square_here"] (defScope s_Lbad_rows) := ⟨rfl, rfl, rfl, by decide +kernel, rfl, by decide +kernel, by decide +kernel⟩
theorem ok__law_bad_rows (T : Tx K mg base) : Cal P w K mg base 1 "_law_bad_rows" sp__law_bad_rows := by
  refine cal_of T 43 rfl rfl sc__law_bad_rows (fun _ _ _ _ _ _ us hl => match us, hl with | [_], _ => rfl) (fun ds Φ Ψ ⟨_, _, h, _⟩ => by rw [h] <;> rfl) fun cdv A outer s H E hcd hr ds Φ Ψ h => ?_
  have sc := sc__law_bad_rows
  obtain ⟨L, r, rfl, hlast, hL, hr', hΦ⟩ := h
  have big : (300 : Nat) ≤ sizeLine := by decide
  have el : (L.map wd).getLast? = some (wd r) := by rw [List.getLast?_map, hlast]; rfl
  have dl : ∀ (x : D), ((r.map D.int).dropLast).length + [x].length ≤ sizeLine := fun x => by rw [List.length_dropLast, List.length_map, List.length_singleton]; omega
  refine dss_cons (ds_set 1 sc.nd rfl (.inl rfl) ?_)
  refine de_ix ?_
  refine de_var 0 rfl (by walk_at "vis") rfl ?_
  refine de_neg ?_
  refine de_int ?_
  refine ⟨_, rfl, ?_⟩
  refine ⟨_, _, _, .inl rfl, rfl, atI_last el, ?_⟩
  refine dss_cons (ds_set 2 sc.nd rfl (.inl rfl) ?_)
  refine de_lst ?_
  -- 2
  refine da_cons ?_
  refine de_op op_addU ?_
  refine de_sl ?_
  refine de_var 1 rfl (.inl rfl) rfl ?_
  refine do_none ?_
  refine do_some ?_
  refine de_neg ?_
  refine de_int ?_
  refine ⟨_, rfl, _, rfl, .inl ⟨_, rfl, ?_⟩⟩
  rw [cutL_init]
  refine de_tup ?_
  refine da_cons ?_
  refine de_int ?_
  refine da_nil ⟨by walk_at "len", ?_⟩
  refine od_addT (dl _) ?_
  -- True
  refine da_cons ?_
  refine de_op op_addU ?_
  refine de_sl ?_
  refine de_var 1 rfl (.inl rfl) rfl ?_
  refine do_none ?_
  refine do_some ?_
  refine de_neg ?_
  refine de_int ?_
  refine ⟨_, rfl, _, rfl, .inl ⟨_, rfl, ?_⟩⟩
  rw [cutL_init]
  refine de_tup ?_
  refine da_cons ?_
  refine de_bl ?_
  refine da_nil ⟨by walk_at "len", ?_⟩
  refine od_addT (dl _) ?_
  -- list
  refine da_cons ?_
  refine de_callTy call_list_of rfl (b_list T) (by decide +kernel) ?_
  refine da_cons ?_
  refine de_var 1 rfl (.inl rfl) rfl ?_
  refine da_nil ?_
  refine cd_list rfl ?_
  -- shorter
  refine da_cons ?_
  refine de_sl ?_
  refine de_var 1 rfl (.inl rfl) rfl ?_
  refine do_none ?_
  refine do_some ?_
  refine de_neg ?_
  refine de_int ?_
  refine ⟨_, rfl, _, rfl, .inl ⟨_, rfl, ?_⟩⟩
  rw [cutL_init]
  -- None
  refine da_cons ?_
  refine de_non ?_
  -- "0"
  refine da_cons ?_
  refine de_op op_addU ?_
  refine de_sl ?_
  refine de_var 1 rfl (.inl rfl) rfl ?_
  refine do_none ?_
  refine do_some ?_
  refine de_neg ?_
  refine de_int ?_
  refine ⟨_, rfl, _, rfl, .inl ⟨_, rfl, ?_⟩⟩
  rw [cutL_init]
  refine de_tup ?_
  refine da_cons ?_
  refine de_str ?_
  refine da_nil ⟨by walk_at "len", ?_⟩
  refine od_addT (dl _) ?_
  refine da_nil ⟨by walk_at "len", ?_⟩
  have eb : [D.tup ((r.map D.int).dropLast ++ [D.int 2]), D.tup ((r.map D.int).dropLast ++ [D.bl true]), D.lst (r.map D.int), D.tup (r.map D.int).dropLast, D.non, D.tup ((r.map D.int).dropLast ++ [D.str "0"])] = badRow r := by
    unfold badRow
    rw [← List.map_dropLast]
  rw [eb]
  refine dss_one (ds_ret ?_)
  refine de_lc 3 rfl sc.nd rfl (show BlkOk ["_law_square_here", "_law_row", "_law_found", "_law_one"] (defScope s_Lbad_rows) _ [("_law_one", 3)] from ⟨rfl, by decide +kernel, by decide +kernel, by decide +kernel, by decide +kernel⟩) (by walk_at "loc") (by walk_at "locf") ?_
  refine df_lst ?_
  refine de_var 2 rfl (.inl rfl) rfl ?_
  refine ⟨_, rfl, by show 6 ≤ sizeLine; omega, fun j ds => ds = ((badRow r).take j).map fun z => D.tup ((L.dropLast).map wd ++ [z]), rfl, fun j y ds hy hd s0 H0 C cl fp => ?_, fun ds hd => ?_⟩
  · refine de_op op_addU ?_
    refine de_sl ?_
    refine de_var 0 rfl (by walk_at "vis") rfl ?_
    refine do_none ?_
    refine do_some ?_
    refine de_neg ?_
    refine de_int ?_
    refine ⟨_, rfl, _, rfl, .inl ⟨_, rfl, ?_⟩⟩
    rw [cutL_init, ← List.map_dropLast]
    refine de_tup ?_
    refine da_cons ?_
    refine de_var 3 rfl (by walk_at "vis") rfl ?_
    refine da_nil ⟨by walk_at "len", ?_⟩
    refine od_addT (by rw [List.length_map, List.length_dropLast, List.length_singleton]; omega) ?_
    show ds ++ [_] = ((badRow r).take (j + 1)).map fun z => D.tup ((L.dropLast).map wd ++ [z])
    rw [show ds = _ from hd, take_next hy, List.map_append]
    rfl
  · rw [show ds = _ from hd, List.take_length]
    exact hΦ
end
end Fr
end
-- FrOwn
section
set_option Elab.async false
set_option linter.all false
set_option maxRecDepth 100000
/-! A list of the def's own: made, changed, then a datum. -/
namespace Fr
open PySem PySem.Spec PyProof.Rows L2
theorem own_code {a c : Addr} {xs : List V} {q : Str} : OwnL a xs ≠ LamX.CodeO c q := fun h => by
  unfold OwnL LamX.CodeO at h
  injection h with h
  let o : Obj := { cls := .none, data := .fields #[.none, .str q 0] }
  let hp : Heap := { objs := Array.replicate (c + 1) o }
  have all : ∀ b : Addr, hp.get? b = some o ∨ hp.get? b = none := fun b => by
    have e : hp.objs[b]? = some o ∨ hp.objs[b]? = none := by
      show (Array.replicate (c + 1) o)[b]? = some o ∨ (Array.replicate (c + 1) o)[b]? = none
      rw [Array.getElem?_replicate]
      by_cases hb : b < c + 1
      · exact .inl (if_pos hb)
      · exact .inr (if_neg hb)
    unfold Heap.get?
    rcases e with e | e <;> rw [e]
    · exact .inl rfl
    · exact .inr rfl
  have g : hp.get? c = some o := by
    have e : hp.objs[c]? = some o := by
      show (Array.replicate (c + 1) o)[c]? = some o
      rw [Array.getElem?_replicate, if_pos (Nat.lt_succ_self c)]
    unfold Heap.get?
    rw [e]
  have z := congrFun h hp
  have k : ∃ (oc : Obj) (vs : Array Value) (t : Tok), hp.get? c = some oc ∧ oc.data = .fields vs ∧ vs[1]? = some (.str q t) := ⟨o, _, 0, g, rfl, rfl⟩
  rw [← z] at k
  obtain ⟨_, its, n, _, e⟩ := k
  rcases all a with w | w
  · rw [w] at e
    have e := congrArg Obj.data (Option.some.inj e)
    cases e
  · rw [w] at e
    cases e
theorem soft_own {a : Addr} {xs : List V} : Soft (OwnL a xs) := ⟨fun ps z => (by unfold OwnL at z; cases z), fun _ _ => own_code⟩
section
variable {X : Cx} {pins : List (Addr × Obj)} {σ : L2.St} {H : Hp} {s : Shared} {a : Addr} {xs : List V}
theorem thaw (I : Inv X pins σ H s) (h : H a = some (OwnL a xs)) : Inv X pins σ (upd H a (.lst xs)) s := by
  obtain ⟨⟨hz, its, n, rv, e⟩, _, _⟩ := I.hok a _ h
  exact I.write (x := a) (e := a) (t' := s.toks) (h' := s.heap) (by rw [h]; exact trivial) (.inl rfl) (fun b u _ q => q) ⟨_, e⟩ ⟨hz, its, n, rv, e⟩
theorem freeze (I : Inv X pins σ H s) (h : H a = some (.lst xs)) : Inv X pins σ (upd H a (OwnL a xs)) s := by
  obtain ⟨hz, its, n, rv, e⟩ := I.hok a _ h
  exact I.write (x := a) (e := a) (t' := s.toks) (h' := s.heap) (by rw [h]; exact trivial) (.inl rfl) (fun b u _ q => q) ⟨_, e⟩ ⟨⟨hz, its, n, rv, e⟩, ⟨_, e⟩, fun h1 h2 ⟨hz, its, n, rv, e⟩ st => ⟨hz, its, n, rv, st _ e⟩⟩
end
section
variable {K : PySem.W.Frag} {H : Hp} {a : Addr} {ys : List V} {o : HO}
theorem own_ne {u : HO} {p : Addr} (h : H a = some (OwnL a ys)) (e : H p = some u) (n : u ≠ OwnL a ys) : upd H a o p = some u := by
  rw [upd_ne fun z => by rw [z, h] at e; exact n (Option.some.inj e).symm]
  exact e
mutual
/-- no datum speaks of it -/
theorem Dat.own (h : H a = some (OwnL a ys)) : ∀ {v : V} {d : D}, Dat K H v d → Dat K (upd H a o) v d
  | _, _, .non => .non
  | _, _, .bl b => .bl b
  | _, _, .int i => .int i
  | _, _, .str x => .str x
  | _, _, .tup q l => .tup (match q with
    | .inl (.inl q) => .inl (.inl (own_ne h q fun z => by unfold OwnL at z; cases z))
    | .inl (.inr ⟨w, q⟩) => .inl (.inr ⟨w, own_ne h q fun z => by unfold OwnL at z; cases z⟩)
    | .inr q => .inr q) (DatL.own h l)
  | _, _, .lst q l => .lst (own_ne h q fun z => by unfold OwnL at z; cases z) (DatL.own h l)
  | _, _, .dic q n l => .dic (own_ne h q fun z => by unfold OwnL at z; cases z) n (DatK.own h l)
  | _, _, .obj q l => .obj (own_ne h q fun z => by unfold OwnL at z; cases z) (DatF.own h l)
  | _, _, .tape ⟨cs, i1, i2, i3, i4, i5, e1, e2, e3⟩ => .tape ⟨cs, i1, i2, i3, i4, i5, own_ne h e1 (fun z => by unfold OwnL at z; cases z), own_ne h e2 (fun z => by unfold OwnL at z; cases z), e3⟩
  | _, _, .fnc q => .fnc (own_ne h q fun z => own_code z.symm)
  | _, _, .exn q l => .exn (own_ne h q fun z => by unfold OwnL at z; cases z) (DatF.own h l)
  | _, _, .scr q => .scr (match q with
    | .inl (.inl q) => .inl (.inl (own_ne h q fun z => by unfold OwnL at z; cases z))
    | .inl (.inr ⟨w, q⟩) => .inl (.inr ⟨w, own_ne h q fun z => by unfold OwnL at z; cases z⟩)
    | .inr q => .inr q)
theorem DatL.own (h : H a = some (OwnL a ys)) : ∀ {v : List V} {d : List D}, DatL K H v d → DatL K (upd H a o) v d
  | _, _, .nil => .nil
  | _, _, .cons q l => .cons (Dat.own h q) (DatL.own h l)
theorem DatK.own (h : H a = some (OwnL a ys)) : ∀ {v : List (Key × V)} {d : List (Str × D)}, DatK K H v d → DatK K (upd H a o) v d
  | _, _, .nil => .nil
  | _, _, .cons q l => .cons (Dat.own h q) (DatK.own h l)
theorem DatF.own (h : H a = some (OwnL a ys)) : ∀ {v : List (Str × V)} {n : List Str} {d : List D}, DatF K H v n d → DatF K (upd H a o) v n d
  | _, _, _, .nil => .nil
  | _, _, _, .cons q l => .cons (Dat.own h q) (DatF.own h l)
end
end
/-! ### the state -/
section
variable {K : PySem.W.Frag} {H0 H : Hp} {σ : L2.St} {δ : List Sl} {i : Nat} {a : Addr} {xs ys : List V} {l : List D} {o : HO}
/-- the list at slot i is changed: all else stands -/
theorem SOk.putO (s : SOk K H0 H σ δ) (hi : δ[i]? = some (.ow l)) (ha : σ[i]? = some (some (.ref a))) (h : H a = some (OwnL a xs)) {z : Sl} (hz : SlAt K (upd H a o) (some (.ref a)) z) (zb : ∀ d, z ≠ .b d) (zi : ∀ a c l, z ≠ .ini a c l) (only : ∀ (j : Nat) b l', i ≠ j → δ[j]? = some (.ow l') → σ[j]? = some (some (.ref b)) → b ≠ a) : SOk K H0 (upd H a o) σ (δ.set i z) := by
  have hn : H0 a = none := by
    obtain ⟨b, e, n⟩ := s.nw i l hi
    rw [ha] at e
    cases e
    exact n
  have kk : Kp K H0 (upd H a o) := Kp.mut s.kp hn h soft_own
  have tabs : Tabs K (upd H a o) := by
    obtain ⟨t1, ps, e1, e2, e3⟩ := s.en.1
    refine ⟨fun P hP => ?_, ps, own_ne h e1 (fun w => by unfold OwnL at w; cases w), e2, fun pos cv hc => ?_⟩
    · obtain ⟨qs, e, r⟩ := t1 P hP
      exact ⟨qs, own_ne h e (fun w => by unfold OwnL at w; cases w), r⟩
    · obtain ⟨c, w1, w2⟩ := e3 pos cv hc
      exact ⟨c, w1, own_ne h w2 fun w => own_code w.symm⟩
  refine ⟨kk, ⟨tabs, by rw [List.length_set]; exact s.en.2.1, fun j y e => ?_⟩, fun j d e => ?_, fun j l' e => ?_, fun j a' c l' e => ?_⟩
  · rcases get_set e with ⟨ej, ey⟩ | ⟨ej, e⟩
    · subst ej ey
      exact ⟨_, ha, hz⟩
    · obtain ⟨w, e1, e2⟩ := s.en.2.2 j y e
      refine ⟨w, e1, ?_⟩
      cases y with
      | no => trivial
      | v d =>
        obtain ⟨v, ev, hd⟩ := e2
        exact ⟨v, ev, hd.own h⟩
      | b d =>
        obtain ⟨v, ev, hd⟩ := e2
        exact ⟨v, ev, hd.own h⟩
      | ow l' =>
        obtain ⟨b, zs, ew, hb, hd⟩ := e2
        subst ew
        have ne := only j b l' ej e e1
        exact ⟨b, zs, rfl, by rw [upd_ne ne]; exact hb, hd.own h⟩
      | ini a' c l' =>
        obtain ⟨dx, fs, ew, hb, hd⟩ := e2
        exact ⟨dx, fs, ew, own_ne h hb (fun w => by unfold OwnL at w; cases w), hd.own h⟩
  · rcases get_set e with ⟨_, w⟩ | ⟨ej, e⟩
    · exact absurd w.symm (zb d)
    · exact s.bs j d e
  · rcases get_set e with ⟨ej, w⟩ | ⟨ej, e⟩
    · subst ej
      exact ⟨a, ha, hn⟩
    · exact s.nw j l' e
  · rcases get_set e with ⟨_, w⟩ | ⟨ej, e⟩
    · exact absurd w.symm (zi a' c l')
    · exact s.ni j a' c l' e
end
/-- no second list of the def's own -/
def oneO (δ : List Sl) (i : Nat) : Bool := (δ.set i .no).all fun s => match s with
  | .ow _ => false
  | _ => true
theorem oneO_only {δ : List Sl} {i : Nat} (h : oneO δ i = true) {j : Nat} {l : List D} (hj : i ≠ j) : δ[j]? ≠ some (.ow l) := fun e => by
  have q := List.all_eq_true.mp h (.ow l) (List.mem_of_getElem? (i := j) (by rw [set_get hj]; exact e))
  cases q
/-! ### reading, storing, appending -/
theorem upd_id {H : Hp} {a : Addr} {o : HO} (h : H a = some o) : upd H a o = H := by
  funext b
  by_cases hb : b = a
  · rw [hb, upd_same, h]
  · rw [upd_ne hb]
section
variable {X : Cx}
def rIxO : R2 := fun x y H Q => ∃ a xs k v, x = .ref a ∧ y = .int k ∧ H a = some (OwnL a xs) ∧ atI xs k = some v ∧ Q v H
theorem ix_own : IxR X rIxO := fun value slice pins s σ H x y v u Q I rx ry ⟨a, xs, k, z, ex, ey, ha, hz, q⟩ hsub => by
  subst ex ey
  refine wpAny_mono (ix_seq value slice pins s σ (upd H a (.lst xs)) _ _ v u (fun w H' => w = z ∧ H' = upd H a (.lst xs)) (thaw I ha) rx ry (.inl ⟨a, xs, k, z, rfl, rfl, .of upd_same, hz, rfl, rfl⟩) hsub) (fun r s' ⟨w, H', J, rw_, ew, eH⟩ => ?_) fun _ _ z => z
  subst ew eH
  have J2 := freeze J (a := a) upd_same
  rw [upd_upd, upd_id ha] at J2
  exact ⟨w, H, J2, rw_, q⟩
def rSetO : V → V → V → Hp → (Hp → Prop) → Prop := fun o i v H Q => ∃ p xs k j, o = .ref p ∧ i = .int k ∧ H p = some (OwnL p xs) ∧ ixN xs.length k = some j ∧ Q (upd H p (OwnL p (xs.set j v)))
theorem set_own : PSet X rSetO := fun pins s σ H o i v ov iv u Q I ro ri rv ⟨p, xs, k, j, eo, ei, hp, hj, q⟩ => by
  subst eo ei
  refine wpAny_mono (set_list pins s σ (upd H p (.lst xs)) _ _ v ov iv u (fun H' => H' = upd H p (.lst (xs.set j v))) (thaw I hp) ro ri rv ⟨p, xs, k, j, rfl, rfl, upd_same, hj, by rw [upd_upd]⟩) (fun _ s' ⟨H', J, eH⟩ => ?_) fun _ _ z => z
  subst eH
  have J2 := freeze J (a := p) upd_same
  rw [upd_upd] at J2
  exact ⟨_, J2, q⟩
def rAppO : V → List V → Hp → VK → Prop := fun x vs H Q => ∃ l xs y, x = .ref l ∧ vs = [y] ∧ H l = some (OwnL l xs) ∧ xs.length < sizeLine ∧ Q .non (upd H l (OwnL l (xs ++ [y])))
theorem app_own : MtM X "list.append" rAppO := fun pins s σ H x vs v us Q I rx rv ⟨l, xs, y, ex, ev, hl, hz, q⟩ => by
  subst ex ev
  refine wpAny_mono (mt_append pins s σ (upd H l (.lst xs)) _ _ v us (fun w H' => w = .non ∧ H' = upd H l (.lst (xs ++ [y]))) (thaw I hl) rx rv ⟨l, xs, y, rfl, rfl, upd_same, hz, rfl, by rw [upd_upd]⟩) (fun r s' ⟨w, H', J, rw_, ew, eH⟩ => ?_) fun _ _ z => z
  subst ew eH
  have J2 := freeze J (a := l) upd_same
  rw [upd_upd] at J2
  exact ⟨_, _, J2, rw_, q⟩
end
section
variable {X : Cx} {δ : List Sl} {Δ : DEnds} {e : Expr} {es : List Expr} {st : Stmt} {sts : List Stmt} {pos p q apos cpos : Pos} {x : Str} {l : List D}
/-- x = [..] -/
theorem dss_lstO (i : Nat) (hN : X.N.Nodup) (hi : X.N[i]? = some x) (hx : Loc X.env.scope x) (h : DA X es δ fun ds => ds.length ≤ sizeLine ∧ DSs X sts (δ.set i (.ow ds)) Δ) (hs : swapsWith (.List es q) (some (.Name x p)) pos.line X.env = pure false := by rfl)
    (hf : X.fn x = true ∨ X.env.scope.names.lookup x = some .local := by first | exact .inl rfl | exact .inr rfl) : DSs X (.Assign [.Name x p] (.List es q) pos :: sts) δ Δ :=
  .of (pss_cons (ps_set hN hi hx (pe_lst pa_A) hs hf) pss_S) fun H0 σ H Dn W tk s k => h σ H _ s.en fun ds vs H1 ⟨hl, r⟩ k1 d1 => ⟨by rw [d1.length]; exact hl, fun a ha pins sh I => by
    have kn : Kp X.K H1 (upd H1 a (OwnL a vs)) := Kp.new ha
    have J := freeze I (a := a) upd_same
    rw [upd_upd] at J
    exact r H0 _ _ Dn W tk ((s.keep (k1.trans kn)).setO i upd_same (d1.keep kn) ((s.kp.trans k1).dm a ha)) k pins sh J⟩
/-- x = list(e) -/
theorem dss_listO (i : Nat) {p2 p3 : Pos} (hN : X.N.Nodup) (hi : X.N[i]? = some x) (hx : Loc X.env.scope x) (hg : Gl X "list") (hm : X.mg "list" = none) (h : DE X e δ fun d => ∃ ds, seqD d = some ds ∧ DSs X sts (δ.set i (.ow ds)) Δ) (hs : swapsWith (.Call (.Name "list" p2) [e] [] p3) (some (.Name x p)) pos.line X.env = pure false := by rfl)
    (hf : X.fn x = true ∨ X.env.scope.names.lookup x = some .local := by first | exact .inl rfl | exact .inr rfl)
    (he : starEach [e] X.env = (false, eval e X.env) :: starEach [] X.env := by rfl) (hpl : (backTo p3 (starEach [] X.env)).any (·.1) = false := by rfl) : DSs X (.Assign [.Name x p] (.Call (.Name "list" p2) [e] [] p3) pos :: sts) δ Δ :=
  .of (pss_cons (ps_set hN hi hx (pe_callTy call_list_of hg hm (by decide +kernel) (pa_cons pe_E pa_nil he) (by decide) (by decide) he hpl) hs hf) pss_S) fun H0 σ H Dn W tk s k => h σ H _ s.en fun d v H1 ⟨ds, ed, r⟩ k1 d1 => by
    obtain ⟨b, ys, ev, hq, hl⟩ := seq_of d1 ed
    subst ev
    refine ⟨b, ys, rfl, hq, fun a ha pins sh I => ?_⟩
    have kn : Kp X.K H1 (upd H1 a (OwnL a ys)) := Kp.new ha
    have J := freeze I (a := a) upd_same
    rw [upd_upd] at J
    exact r H0 _ _ Dn W tk ((s.keep (k1.trans kn)).setO i upd_same (hl.keep kn) ((s.kp.trans k1).dm a ha)) k pins sh J
theorem own_at {K : PySem.W.Frag} {H : Hp} {σ : L2.St} (en : Ek K H σ δ) {i : Nat} (h : δ[i]? = some (.ow l)) : ∃ a xs, σ[i]? = some (some (.ref a)) ∧ H a = some (OwnL a xs) ∧ DatL K H xs l := by
  obtain ⟨o, e1, a, xs, eo, ha, hd⟩ := en.2.2 i _ h
  subst eo
  exact ⟨a, xs, e1, ha, hd⟩
/-- x[e], x the own list -/
theorem de_ixO {Φ : D → Prop} {p2 : Pos} (i : Nat) (hN : X.N[i]? = some x) (hv : Vis X.env.scope x) (h0 : δ[i]? = some (.ow l)) (h : DE X e δ fun y => ∃ j z, y = .int j ∧ atI l j = some z ∧ Φ z) (h1 : (x == ("__debug__" : Str)) = false := by decide) (h2 : (x == ("__classdict__" : Str)) = false := by decide)
    (hs : PlainIx e := by exact fun _ _ => rfl) : DE X (.Subscript (.Name x p) e p2) δ Φ :=
  .of (pe_ix ix_own (pe_var (i := i) hN hv h1 h2) pe_E hs) fun σ H Q en k => by
    obtain ⟨a, xs, e1, ha, hd⟩ := own_at en h0
    refine ⟨_, e1, h σ H _ en fun y u H1 ⟨j, z, ey, hz, q⟩ k1 d1 => ?_⟩
    subst ey
    cases d1
    obtain ⟨a', xs', e1', ha', hd'⟩ := own_at (en.keep k1) h0
    rw [e1] at e1'
    cases e1'
    obtain ⟨v, hv1, hv2⟩ := atI_dat hd' hz
    exact ⟨a, xs', j, v, rfl, rfl, ha', hv1, k _ _ H1 q k1 hv2⟩
/-- x[j] = e -/
theorem ds_putO {j : Expr} {p2 : Pos} (i : Nat) (hN : X.N[i]? = some x) (hv : Vis X.env.scope x) (h0 : δ[i]? = some (.ow l)) (ho : oneO δ i = true) (h : DE X e δ fun d => DE X j δ fun y => ∃ n m, y = .int n ∧ ixN l.length n = some m ∧ Δ.nx (δ.set i (.ow (l.set m d)))) (h1 : (x == ("__debug__" : Str)) = false := by decide) (h2 : (x == ("__classdict__" : Str)) = false := by decide)
    (hs : swapsWithSole [.Subscript (.Name x p) j p2] e pos.line X.env = pure false := by rfl) (hw : swappedStores [.Subscript (.Name x p) j p2] e X.env = pure none := by rfl)
    (ha : ∀ v, assign (.Subscript (.Name x p) j p2) X.env v = (do
      let ov ← holding [v] (eval (.Name x p) X.env)
      let iv ← holding [v, ov] (eval j X.env)
      standAt p2
      holding [v, ov, iv] (setItem ov iv v)
      release [v, ov, iv] []) := by intro _; rfl) (ha2 : (assignEach [.Subscript (.Name x p) j p2] X.env).map (·.2) = [assign (.Subscript (.Name x p) j p2) X.env] := by rfl) : DS X (.Assign [.Subscript (.Name x p) j p2] e pos) δ Δ :=
  .of (ps_asg pe_E (pg_sub (pe_var (i := i) hN hv h1 h2) pe_E set_own ha) hs hw ha2) fun H0 σ H Dn W tk s k => h σ H _ s.en fun d v H1 hj k1 d1 => by
    obtain ⟨a, xs, e1, _, _⟩ := own_at (s.en.keep k1) h0
    refine ⟨_, e1, hj σ H1 _ (s.en.keep k1) fun y u H2 ⟨n, m, ey, hm, q⟩ k2 d2 => ?_⟩
    subst ey
    cases d2
    have s2 := (s.keep k1).keep k2
    obtain ⟨a', xs', e1', ha', hd'⟩ := own_at s2.en h0
    rw [e1] at e1'
    cases e1'
    refine ⟨a, xs', n, m, rfl, rfl, ha', by rw [hd'.length]; exact hm, ?_⟩
    exact k.nx _ _ _ q (s2.putO (z := .ow (l.set m d)) h0 e1 ha' ⟨a, _, rfl, upd_same, DatL.set ((d1.keep k2).own ha') m (hd'.own ha')⟩ (fun d z => by cases z) (fun _ _ _ z => by cases z) (fun j b l' ej e => absurd e (oneO_only ho ej)))
/-- x.append(e) -/
theorem ds_appO (i : Nat) (hN : X.N[i]? = some x) (hv : Vis X.env.scope x) (h0 : δ[i]? = some (.ow l)) (ho : oneO δ i = true) (hz : l.length < sizeLine) (h : DE X e δ fun d => Δ.nx (δ.set i (.ow (l ++ [d])))) (h1 : (x == ("__debug__" : Str)) = false := by decide) (h2 : (x == ("__classdict__" : Str)) = false := by decide)
    (hfew : ((backTo cpos (starEach [e] X.env)).all (fun x => !x.1) && (backToKw cpos (keywordEach [] X.env)).all (fun x => x.1.isSome) && decide ([e].length + ([] : List Keyword).length + (if ([] : List Keyword).isEmpty then 0 else 1) < 30)) = true := by rfl)
    (hline : (apos.endLine == cpos.line) = true := by rfl) (hst : starEach [e] X.env = (false, eval e X.env) :: starEach [] X.env := by rfl) (hs : swapsWith (.Call (.Attribute (.Name x p) "append" apos) [e] [] cpos) none pos.line X.env = pure false := by rfl) :
    DS X (.Expr (.Call (.Attribute (.Name x p) "append" apos) [e] [] cpos) pos) δ Δ := fun H0 σ H Dn W tk s k pins sh I => by
  obtain ⟨a, xs, e1, ha, hd⟩ := own_at s.en h0
  refine wpAny_Expr_any (wpAny_Call_method_late rfl hfew hline rfl (thn ((pe_var (X := X) (pos := p) (i := i) hN hv h1 h2).run pins sh σ H (fun v H1 => v = .ref a ∧ H1 = H) I ⟨_, e1, rfl, rfl⟩) fun v s1 ⟨y, H1, I1, r1, ey, eH⟩ => ?_)) I.quiet hs
  subst ey eH
  obtain ⟨t1, t2⟩ := tyV_is (T := "list") (thaw I1 ha) r1 (.inl ⟨rfl, xs, .of upd_same⟩)
  refine ⟨"list", "list.append", F.plainAttrs_list, F.slot_list_append, F.type_list_append, t1, t2, ?_⟩
  have args := (DA.of (X := X) (pa_cons (pe_E (e := e)) pa_nil hst) (δ := δ) (Φ := fun ds => ∃ d, ds = [d] ∧ Δ.nx (δ.set i (.ow (l ++ [d])))) fun σ H Q en kk => h σ H _ en fun d v H1 q k1 d1 => kk [d] [v] H1 ⟨d, rfl, q⟩ k1 (.cons d1 .nil)) σ H1 (fun vs H2 => ∃ ds, (∃ d, ds = [d] ∧ Δ.nx (δ.set i (.ow (l ++ [d])))) ∧ Kp X.K H1 H2 ∧ DatL X.K H2 vs ds) s.en (fun ds vs H2 q k2 d2 => ⟨ds, q, k2, d2⟩) cpos pins s1 I1
  rw [hst] at args ⊢
  refine Calls.callWith_builtin rfl (Calls.evalArgs_plain (thn args fun us s2 ⟨vs, H2, I2, r2, ds, ⟨d, ed, q⟩, k2, d2⟩ => ?_))
  subst ed
  obtain ⟨z, rfl, hdz⟩ : ∃ z, vs = [z] ∧ Dat X.K H2 z d := by
    cases d2 with
    | cons q1 q2 =>
      cases q2
      exact ⟨_, rfl, q1⟩
  have s2' := s.keep k2
  obtain ⟨a', xs', e1', ha', hd'⟩ := own_at s2'.en h0
  rw [e1] at e1'
  cases e1'
  refine thn (app_own pins s2 σ H2 _ _ _ us (fun _ H3 => Dn.nx σ H3) I2 r1 r2 ⟨a, xs', z, rfl, rfl, ha', by rw [hd'.length]; exact hz, ?_⟩) fun r s3 ⟨w, H3, I3, _, q3⟩ => ⟨σ, H3, I3, q3⟩
  exact k.nx _ _ _ q (s2'.putO (z := .ow (l ++ [d])) h0 e1 ha' ⟨a, _, rfl, upd_same, (hd'.own ha').append (.cons (hdz.own ha') .nil)⟩ (fun d z => by cases z) (fun _ _ _ z => by cases z) (fun j b l' ej e => absurd e (oneO_only ho ej)))
/-- the list is a datum from now on -/
theorem dss_thaw (i : Nat) (h0 : δ[i]? = some (.ow l)) (h1 : oneO δ i = true) (h : DSs X sts (δ.set i (.v (.lst l))) Δ) : DSs X sts δ Δ := fun H0 σ H Dn W tk s k pins sh I => by
  obtain ⟨o, e1, a, xs, eo, ha, hd⟩ := s.en.2.2 i _ h0
  subst eo
  have s2 := s.putO (o := .lst xs) (z := .v (.lst l)) h0 e1 ha ⟨_, rfl, .lst upd_same (hd.own ha)⟩ (fun d z => by cases z) (fun _ _ _ z => by cases z) (fun j b l' ej e => absurd e (oneO_only h1 ej))
  exact h H0 σ _ Dn W tk s2 k pins sh (thaw I ha)
end
end Fr
end
-- FrL6
section
set_option Elab.async false
set_option linter.all false
set_option maxRecDepth 100000
/-! The walks: near squares. -/
namespace Fr
open PySem PySem.Spec PyProof.Rows L2
-- macros
local macro_rules | `(tactic| walk_at "side") => `(tactic| first | assumption | omega | rfl | decide)
local macro_rules | `(tactic| walk_at "cm") => `(tactic| first | exact .inl ⟨by omega, by omega⟩ | exact .inr ⟨by omega, by omega⟩)
local macro_rules | `(tactic| walk_at "len") => `(tactic| first | decide | (show _ ≤ sizeLine; simp only [List.length_cons, List.length_nil]; decide))
local macro_rules | `(tactic| walk_at "add") => `(tactic| first | refine od_addI ?_ | refine od_addT (by walk_at "side") ?_ | refine od_addL (by walk_at "side") ?_)
local macro_rules | `(tactic| walk_at "mul") => `(tactic| first | refine od_mulI (by walk_at "cm") ?_ | refine od_mulT (by walk_at "side") (by walk_at "side") (by walk_at "side") ?_)
local macro_rules | `(tactic| walk_at "ok") => `(tactic| first | assumption | (simp only [D.ok, okL, Bool.and_true, Bool.true_and]; first | done | assumption | decide))
local macro_rules | `(tactic| walk_at "eq") => `(tactic| first | refine od_eqII ?_ | refine od_eq 20 20 (by walk_at "ok") (by walk_at "ok") (by omega) ?_)
local macro_rules | `(tactic| walk_at "ne") => `(tactic| first | refine od_neII ?_ | refine od_ne 20 20 (by walk_at "ok") (by walk_at "ok") (by omega) ?_)
local macro_rules | `(tactic| walk_at "slice") => `(tactic| first | refine .inl ⟨_, rfl, ?_⟩ | refine .inr ⟨_, rfl, ?_⟩)
local macro_rules | `(tactic| walk_at "vis") => `(tactic| first | exact .inl rfl | exact .inr (.inl rfl) | exact .inr (.inr rfl))
local macro_rules | `(tactic| walk_at "loc") => `(tactic| first | exact .inl rfl | exact .inr rfl)
local macro_rules | `(tactic| walk_at "locf") => `(tactic| first | exact .inr rfl | exact .inl rfl)
-- end macros
theorem ixN_nat {n : Nat} {i : Int} (h0 : 0 ≤ i) (h1 : i.toNat < n) : ixN n i = some i.toNat := by
  unfold ixN
  rw [if_pos h0, if_pos (by omega)]
theorem bitsI_set {m : List Int} (h : bitsI m) (j : Nat) {x : Int} (hx : x = 0 ∨ x = 1) : bitsI (m.set j x) := fun y hy => by
  rcases List.mem_or_eq_of_mem_set hy with z | z
  · exact h y z
  · rw [z]; exact hx
theorem squareI {n : Nat} {l : List Int} (hl : WdI n l) : SqI n (l.map fun a => l.map fun b => a * b) := by
  refine ⟨by rw [List.length_map, hl.len], fun r hr => ?_⟩
  obtain ⟨a, ha, rfl⟩ := List.mem_map.mp hr
  refine ⟨by rw [List.length_map, hl.len], fun x hx => ?_⟩
  obtain ⟨b, hb, rfl⟩ := List.mem_map.mp hx
  rcases hl.bits a ha with h1 | h1 <;> rcases hl.bits b hb with h2 | h2 <;> rw [h1, h2] <;> simp
section
variable {P : Program} {w : World} {K : PySem.W.Frag} {mg : Str → Option Value} {base : Heap}
def sp__law_near_square : DSp := fun ds Φ _ => ∃ (n : Nat) (l : List Int), ds = [.tape, wd l] ∧ WdI n l ∧ 1 ≤ n ∧ n ≤ 12 ∧ ∀ L, SqI n L → Φ (sq L)
theorem sc__law_near_square : FnScope ["_law_tape_here", "_law_word_here", "_law_n", "_law_bits", "_law_k", "_law_at"] ["_law_tape_here", "_law_word_here"] (defScope s_Lnear_square) := ⟨rfl, rfl, rfl, by decide +kernel, rfl, by decide +kernel, by decide +kernel⟩
theorem ok__law_near_square (T : Tx K mg base) : Cal P w K mg base 5 "_law_near_square" sp__law_near_square := by
  refine cal_of T 34 rfl rfl sc__law_near_square (fun _ _ _ _ _ _ us hl => match us, hl with | [_, _], _ => rfl) (fun ds Φ Ψ ⟨_, _, h, _⟩ => by rw [h] <;> rfl) fun cdv A outer s H E hcd hr ds Φ Ψ h => ?_
  have sc := sc__law_near_square
  obtain ⟨n, l, rfl, hl, h1, h12, hΦ⟩ := h
  have hnn : n * n ≤ 12 * 12 := Nat.mul_le_mul h12 h12
  have hn1 : 1 ≤ n * n := Nat.mul_le_mul h1 h1
  have nnc : (n : Int) * n = ((n * n : Nat) : Int) := (Int.natCast_mul n n).symm
  have hQ := squareI hl
  refine dss_cons (ds_set 2 sc.nd rfl (.inl rfl) ?_)
  refine de_callB call_len_seq rfl (b_len T) (by decide +kernel) ?_
  refine da_cons ?_
  refine de_var 1 rfl (.inl rfl) rfl ?_
  refine da_nil ?_
  refine cd_len rfl ?_
  rw [List.length_map, hl.len]
  refine dss_cons (ds_if ?_)
  refine dt_cmpO (op_eqD hr.units) rfl ?_
  refine de_call (ok__law_draw T) (hr.mono (by decide)) rfl ?_
  refine da_cons ?_
  refine de_var 0 rfl (.inl rfl) rfl ?_
  refine da_cons ?_
  refine de_int ?_
  refine da_nil ?_
  refine ⟨_, rfl, by omega, fun i0 _ _ => ?_⟩
  refine de_int ?_
  refine od_eqII (isBl_of ⟨fun _ => ?_, fun _ => ?_⟩)
  · refine dss_one (ds_ret ?_)
    refine de_call (ok__law_square T) hr rfl ?_
    refine da_cons ?_
    refine de_var 0 rfl (.inl rfl) rfl ?_
    refine da_cons ?_
    refine de_var 2 rfl (.inl rfl) rfl ?_
    refine da_nil ?_
    exact ⟨n, rfl, h12, hΦ⟩
  · refine dss_nil ?_
    refine dss_listO 3 sc.nd rfl (.inl rfl) rfl (b_list T) ?_
    refine de_call (ok__law_flat T) (hr.mono (by decide)) rfl ?_
    refine da_cons ?_
    refine de_call (ok__law_square_of T) (hr.mono (by decide)) rfl ?_
    refine da_cons ?_
    refine de_var 1 rfl (.inl rfl) rfl ?_
    refine da_cons ?_
    refine de_var 1 rfl (.inl rfl) rfl ?_
    refine da_nil ?_
    refine ⟨l, l, rfl, hl.bits, by rw [hl.len]; omega, by rw [hl.len]; omega, ?_⟩
    refine da_nil ?_
    refine ⟨_, rfl, by rw [hQ.flat.len]; omega, _, rfl, ?_⟩
    refine dss_cons (ds_forR 4 rfl (passes_of rfl) sc.nd rfl (.inl rfl) rfl (b_range T) ?_)
    refine de_call (ok__law_draw T) (hr.mono (by decide)) rfl ?_
    refine da_cons ?_
    refine de_var 0 rfl (.inl rfl) rfl ?_
    refine da_cons ?_
    refine de_int ?_
    refine da_nil ?_
    refine ⟨_, rfl, by omega, fun i i0 i3 => ⟨i.toNat, by rw [Int.toNat_of_nonneg i0], by omega, ?_⟩⟩
    refine ⟨fun j δ' => ∃ (m : List Int) (z4 z5 : Sl), δ' = [.b .tape, .b (wd l), .v (.int n), .ow (m.map .int), z4, z5] ∧ oneO δ' 3 = true ∧ m.length = n * n ∧ bitsI m, ⟨_, .no, .no, rfl, rfl, hQ.flat.len, hQ.flat.bits⟩, fun j δ' _ ⟨m, z4, z5, e, ho, hm, hb⟩ => ?_, fun δ' ⟨m, z4, z5, e, ho, hm, hb⟩ => ?_⟩
    · subst e
      refine dss_cons (ds_set 5 sc.nd rfl (.inl rfl) ?_)
      refine de_call (ok__law_draw T) (hr.mono (by decide)) rfl ?_
      refine da_cons ?_
      refine de_var 0 rfl (.inl rfl) rfl ?_
      refine da_cons ?_
      refine de_op op_mulU ?_
      refine de_var 2 rfl (.inl rfl) rfl ?_
      refine de_var 2 rfl (.inl rfl) rfl ?_
      refine od_mulI (.inl ⟨by omega, by omega⟩) ?_
      refine da_nil ?_
      rw [nnc]
      refine ⟨_, rfl, by omega, fun a a0 a1 => ?_⟩
      have al : a.toNat < m.length := by omega
      obtain ⟨x, hx⟩ : ∃ x, m[a.toNat]? = some x := ⟨_, List.getElem?_eq_getElem al⟩
      have hx01 := hb x (List.mem_of_getElem? hx)
      refine dss_one (ds_putO 3 (l := m.map .int) rfl (.inl rfl) rfl rfl ?_)
      refine de_op op_sub ?_
      refine de_int ?_
      refine de_ixO 3 (l := m.map .int) rfl (.inl rfl) rfl ?_
      refine de_var 5 rfl (.inl rfl) rfl ?_
      refine ⟨a, .int x, rfl, atI_nat a0 (by rw [List.getElem?_map, hx]; rfl), ?_⟩
      refine od_subI ?_
      refine de_var 5 rfl (.inl rfl) rfl ?_
      refine ⟨a, a.toNat, rfl, ixN_nat a0 (by rw [List.length_map]; exact al), ?_⟩
      refine ⟨m.set a.toNat (1 - x), _, _, by rw [List.map_set]; rfl, rfl, by rw [List.length_set]; exact hm, bitsI_set hb _ (by omega)⟩
    · subst e
      refine dss_thaw 3 rfl ho ?_
      refine dss_one (ds_ret ?_)
      refine de_call (ok__law_rows T) (hr.mono (by decide)) rfl ?_
      refine da_cons ?_
      refine de_var 3 rfl (.inl rfl) rfl ?_
      refine da_cons ?_
      refine de_var 2 rfl (.inl rfl) rfl ?_
      refine da_nil ?_
      exact ⟨_, m, n, rfl, .inr rfl, hm, by omega, hΦ _ (rows_sq hb hm)⟩
end
end Fr
end
-- FrSort
section
set_option Elab.async false
set_option linter.all false
set_option maxRecDepth 100000
/-! sorted of a list of alike tuples. -/
namespace Fr
open PySem PySem.Spec PyProof.Rows L2
open PySem.W (EachIs)
def leD (x y : D) : Bool := !ltD y x
theorem ltD_trans {x y z : D} (h1 : ltD x y = true) (h2 : ltD y z = true) : ltD x z = true := (PyProof.Rows.listOrd PyProof.Rows.itemOrd).trans _ _ _ h1 h2
theorem ltD_irrefl (x : D) : ltD x x = false := (PyProof.Rows.listOrd PyProof.Rows.itemOrd).irrefl _
theorem ltD_asym {x y : D} (h1 : ltD x y = true) : ltD y x = false := by
  cases h : ltD y x with
  | false => rfl
  | true =>
    have := ltD_trans h1 h
    rw [ltD_irrefl] at this
    cases this
theorem leD_total : PySem.W.TotalLe leD := PySem.W.sortLe_total (PyProof.Rows.listOrd PyProof.Rows.itemOrd) false fun d : D => PySem.W.keyToks d.py
/-- neither below the other: equal -/
theorem ltD_eqv {x y : D} (al : alikeD x y = true) (h1 : ltD x y = false) (h2 : ltD y x = false) : D.eqv x y = true := by
  cases h : D.eqv x y with
  | true => rfl
  | false =>
    have e : PySem.W.keyToks x.py = PySem.W.keyToks y.py := (PyProof.Rows.listOrd PyProof.Rows.itemOrd).total _ _ h1 h2
    have q := (PySem.W.toks_eqv x.py y.py al).2 h [] [.inl 0]
    rw [e, PySem.W.lex_pre] at q
    have irr : PyProof.Rows.lexLt PyProof.Rows.itemOrd (PySem.W.keyToks y.py) (PySem.W.keyToks y.py) = false := (PyProof.Rows.listOrd PyProof.Rows.itemOrd).irrefl _
    rw [irr] at q
    cases q
section
variable {X : Cx}
theorem _root_.PySem.W.EachIs.mono' {α β : Type} {R S : α → β → Prop} : ∀ {as : List α} {bs : List β}, EachIs R as bs → (∀ a b, R a b → b ∈ bs → S a b) → EachIs S as bs
  | _, _, .nil, _ => .nil
  | _, _, .cons h t, k => .cons (k _ _ h List.mem_cons_self) (PySem.W.EachIs.mono' t fun a b r m => k a b r (List.mem_cons_of_mem _ m))
abbrev RsD (K : PySem.W.Frag) (H : Hp) (v : Value) (d : D) : Prop := ∃ x : V, RelV x v ∧ Dat K H x d
theorem each_of {K : PySem.W.Frag} {H : Hp} : ∀ {xs : List V} {its : List Value} {ds : List D}, Vals xs its → DatL K H xs ds → EachIs (RsD K H) its ds
  | _, _, _, .nil, .nil => .nil
  | _, _, _, .cons r t, .cons d l => .cons ⟨_, r, d⟩ (each_of t l)
theorem of_each {K : PySem.W.Frag} {H : Hp} : ∀ {its : List Value} {ds : List D}, EachIs (RsD K H) its ds → ∃ xs, Vals xs its ∧ DatL K H xs ds
  | _, _, .nil => ⟨[], .nil, .nil⟩
  | _, _, .cons ⟨x, r, d⟩ t => let ⟨xs, r2, d2⟩ := of_each t; ⟨x :: xs, .cons r r2, .cons d d2⟩
def rSortD (K : PySem.W.Frag) : List V → Hp → VK → Prop := fun vs H Q => ∃ (a : Addr) (xs : List V) (ds : List D), vs = [.ref a] ∧ SqL K H a xs ∧ DatL K H xs ds ∧ okL ds 8 = true ∧ (∀ x ∈ ds, ∀ y ∈ ds, alikeD x y = true) ∧ (∀ x ∈ ds, ∃ z r, x = .tup (z :: r)) ∧ ds.length ≤ sizeLine ∧
  ∀ p zs, H p = none → DatL K H zs (ds.mergeSort leD) → Q (.ref p) (upd H p (.lst zs))
theorem cr_sortD (hu : X.A.units + 64 < cLine) : CallR X (.builtin "sorted") (rSortD X.K) := by
  intro pins s σ H vs us Q I r ⟨a, xs, ds, ev, hs, hd, hok, hal, ht, hl, q⟩
  subst ev
  obtain rfl := Vals.ref1 r
  obtain ⟨its, rv, hL, hz⟩ := I.list hs
  have ee := each_of rv hd
  have dep : ∀ d ∈ ds, d.py.depth ≤ 8 := fun d hd => (D.ok_lay (okL_iff.mp hok d hd)).2
  have lay : (s.heap.objs.size + 1 : Nat) = s.heap.objs.size + 1 := rfl
  refine PySem.W.sorted_data (R := RsD X.K H) (enc := D.py) (bs := ds) hL.isList ee (ee.mono' fun v d ⟨x, rx, dx⟩ hdm => Dp.reads I d.py x v (dp_of dx (D.ok_pl (okL_iff.mp hok d hdm))) rx) (fun d hd1 d' hd2 => ?_) (.inl fun d hd1 => ?_) hl (fun d hdm => ?_) fun out hlen ho => ?_
  · obtain ⟨x, hx, rfl⟩ := List.mem_map.mp hd1
    obtain ⟨y, hy, rfl⟩ := List.mem_map.mp hd2
    exact hal x hx y hy
  · obtain ⟨x, hx, rfl⟩ := List.mem_map.mp hd1
    obtain ⟨z, r, rfl⟩ := ht x hx
    exact ⟨z.py, pyL r, by rw [D.py, pyL]⟩
  · have := dep d hdm
    omega
  · obtain ⟨zs, rz, dz⟩ := of_each ho
    obtain ⟨c, at_⟩ := sortedAll_at s.heap its (List.toArray out)
    refine ⟨.ref (s.heap.objs.size + 1), _, I.laid (t' := s.toks) (a := s.heap.objs.size + 1) (o := .lst zs) (fun b u e => sortedAll_old e) (Nat.le_succ _) ⟨?_, out, c, rz, at_⟩, rfl, q _ zs (I.hok.fresh (Nat.le_succ _)) dz⟩
    rw [rz.length, hlen]
    exact hl
end
end Fr
end
-- FrL7
section
set_option Elab.async false
set_option linter.all false
set_option maxRecDepth 100000
/-! The walks: distinct rows. -/
namespace Fr
open PySem PySem.Spec PyProof.Rows L2
-- macros
local macro_rules | `(tactic| walk_at "side") => `(tactic| first | assumption | omega | rfl | decide)
local macro_rules | `(tactic| walk_at "cm") => `(tactic| first | exact .inl ⟨by omega, by omega⟩ | exact .inr ⟨by omega, by omega⟩)
local macro_rules | `(tactic| walk_at "len") => `(tactic| first | decide | (show _ ≤ sizeLine; simp only [List.length_cons, List.length_nil]; decide))
local macro_rules | `(tactic| walk_at "add") => `(tactic| first | refine od_addI ?_ | refine od_addT (by walk_at "side") ?_ | refine od_addL (by walk_at "side") ?_)
local macro_rules | `(tactic| walk_at "mul") => `(tactic| first | refine od_mulI (by walk_at "cm") ?_ | refine od_mulT (by walk_at "side") (by walk_at "side") (by walk_at "side") ?_)
local macro_rules | `(tactic| walk_at "ok") => `(tactic| first | assumption | (simp only [D.ok, okL, Bool.and_true, Bool.true_and]; first | done | assumption | decide))
local macro_rules | `(tactic| walk_at "eq") => `(tactic| first | refine od_eqII ?_ | refine od_eq 20 20 (by walk_at "ok") (by walk_at "ok") (by omega) ?_)
local macro_rules | `(tactic| walk_at "ne") => `(tactic| first | refine od_neII ?_ | refine od_ne 20 20 (by walk_at "ok") (by walk_at "ok") (by omega) ?_)
local macro_rules | `(tactic| walk_at "slice") => `(tactic| first | refine .inl ⟨_, rfl, ?_⟩ | refine .inr ⟨_, rfl, ?_⟩)
local macro_rules | `(tactic| walk_at "vis") => `(tactic| first | exact .inl rfl | exact .inr (.inl rfl) | exact .inr (.inr rfl))
local macro_rules | `(tactic| walk_at "loc") => `(tactic| first | exact .inl rfl | exact .inr rfl)
local macro_rules | `(tactic| walk_at "locf") => `(tactic| first | exact .inr rfl | exact .inl rfl)
-- end macros
/-- in order, none twice -/
abbrev Asc (ys : List D) : Prop := ys.Pairwise fun x y => ltD x y = true
theorem asc_sort {l : List D} (h : l.Pairwise fun x y => ltD x y = true ∨ ltD y x = true) : Asc (l.mergeSort leD) := by
  have p : (l.mergeSort leD).Perm l := List.mergeSort_perm l leD
  have a := PySem.W.sort_pairwise leD_total l
  have b : (l.mergeSort leD).Pairwise fun x y => ltD x y = true ∨ ltD y x = true := p.symm.pairwise h fun {x y} q => q.symm
  refine (a.and b).imp fun {x y} ⟨h1, h2⟩ => ?_
  unfold leD at h1
  rw [Bool.not_eq_true'] at h1
  rcases h2 with h2 | h2
  · exact h2
  · rw [h1] at h2
    cases h2
section
variable {P : Program} {w : World} {K : PySem.W.Frag} {mg : Str → Option Value} {base : Heap}
theorem cd_sortD {X : Cx} {Φ : D → Prop} {l : List D} (hok : okL l 8 = true) (hal : ∀ x ∈ l, ∀ y ∈ l, alikeD x y = true) (ht : ∀ x ∈ l, ∃ z r, x = .tup (z :: r)) (hl : l.length ≤ sizeLine) (h : Φ (.lst (l.mergeSort leD))) : CD X (rSortD X.K) [.lst l] Φ := fun H vs Q dl k => by
  cases dl with
  | cons h1 h2 =>
    cases h2
    cases h1 with
    | @lst a xs _ hh hd => exact ⟨a, xs, l, rfl, .of hh, hd, hok, hal, ht, hl, fun p zs hp dz => k _ _ _ h (Kp.new hp) (.lst upd_same (dz.keep (Kp.new hp)))⟩
def sp__law_distinct : DSp := fun ds Φ _ => ∃ l : List D, ds = [.lst l] ∧ l.length ≤ 100 ∧ okL l 7 = true ∧ (∀ x ∈ l, ∀ y ∈ l, alikeD x y = true) ∧ (∀ x ∈ l, ∃ z r, x = .tup (z :: r)) ∧ ∀ ys, (∀ y ∈ ys, y ∈ l) → Asc ys → ys.length ≤ l.length → Φ (.tup ys)
theorem sc__law_distinct : FnScope ["_law_rows_here", "_law_k"] ["_law_rows_here"] (defScope s_Ldistinct) := ⟨rfl, rfl, rfl, by decide +kernel, rfl, by decide +kernel, by decide +kernel⟩
theorem ok__law_distinct (T : Tx K mg base) : Cal P w K mg base 1 "_law_distinct" sp__law_distinct := by
  refine cal_of T 37 rfl rfl sc__law_distinct (fun _ _ _ _ _ _ us hl => match us, hl with | [_], _ => rfl) (fun ds Φ Ψ ⟨_, h, _⟩ => by rw [h] <;> rfl) fun cdv A outer s H E hcd hr ds Φ Ψ h => ?_
  have sc := sc__law_distinct
  obtain ⟨l, rfl, hlen, hok, hal, ht, hΦ⟩ := h
  have big : (300 : Nat) ≤ sizeLine := by decide
  refine dss_one (ds_ret ?_)
  refine de_callTy call_tuple_of rfl (b_tuple T) (by decide +kernel) ?_
  refine da_cons ?_
  refine de_callB (cr_sortD hr.units) rfl (b_sorted T) (by decide +kernel) ?_
  refine da_cons ?_
  refine de_lcIf 1 rfl sc.nd rfl (show BlkOk ["_law_rows_here", "_law_k"] (defScope s_Ldistinct) _ [("_law_k", 1)] from ⟨rfl, by decide +kernel, by decide +kernel, by decide +kernel, by decide +kernel⟩) (by walk_at "loc") (by walk_at "locf") ?_
  refine df_range rfl (b_range T) ?_
  refine de_callB call_len_seq rfl (b_len T) (by decide +kernel) ?_
  refine da_cons ?_
  refine de_var 0 rfl (by walk_at "vis") rfl ?_
  refine da_nil ?_
  refine cd_len rfl ?_
  refine ⟨l.length, rfl, by omega, by rw [List.length_map, List.length_range]; omega, fun j ds => (∀ y ∈ ds, y ∈ l.take j) ∧ ds.Pairwise (fun x y => ltD x y = true ∨ ltD y x = true) ∧ ds.length ≤ j, ⟨fun y hy => (by cases hy), .nil, Nat.le_refl _⟩, fun j y ds hy ⟨h1, h2, h3⟩ s0 H0 C cl fp => ?_, fun ds ⟨h1, h2, h3⟩ => ?_⟩
  · obtain ⟨hj, rfl⟩ := range_at hy
    have hx : l[j]? = some l[j] := List.getElem?_eq_getElem hj
    generalize l[j] = x at hx
    have xm := List.mem_of_getElem? hx
    have tk : l.take (j + 1) = l.take j ++ [x] := take_more hx
    have sub : ∀ z ∈ l.take j, z ∈ l := fun z hz => List.mem_of_mem_take hz
    refine dts_one ?_
    refine dt_cmpO (op_notinU hr) rfl ?_
    refine de_ix ?_
    refine de_var 0 rfl (by walk_at "vis") rfl ?_
    refine de_var 1 rfl (by walk_at "vis") rfl ?_
    refine ⟨l, _, x, .inr rfl, rfl, atI_nat (by omega) (by rw [Int.toNat_natCast]; exact hx), ?_⟩
    refine de_sl ?_
    refine de_var 0 rfl (by walk_at "vis") rfl ?_
    refine do_none ?_
    refine do_some ?_
    refine de_var 1 rfl (by walk_at "vis") rfl ?_
    refine ⟨_, rfl, .inr ⟨_, rfl, ?_⟩⟩
    rw [cutL_to (by omega), Int.toNat_natCast]
    refine od_notinL 7 8 (okL_iff.mp hok x xm) (by rw [ok_lst]; exact okL_iff.mpr fun d hd => okL_iff.mp hok d (sub d hd)) (by omega) (isBl_of ⟨fun hb => ?_, fun hb => ?_⟩)
    · intro s0 H0 C cl fp
      refine de_ix ?_
      refine de_var 0 rfl (by walk_at "vis") rfl ?_
      refine de_var 1 rfl (by walk_at "vis") rfl ?_
      refine ⟨l, _, x, .inr rfl, rfl, atI_nat (by omega) (by rw [Int.toNat_natCast]; exact hx), ?_⟩
      rw [Bool.not_eq_true'] at hb
      refine ⟨fun y hy => ?_, List.pairwise_append.mpr ⟨h2, List.pairwise_singleton _ _, fun a ha b hb2 => ?_⟩, by rw [List.length_append, List.length_singleton]; omega⟩
      · rw [tk]
        rcases List.mem_append.mp hy with hy | hy
        · exact List.mem_append_left _ (h1 y hy)
        · exact List.mem_append_right _ hy
      · rw [List.mem_singleton.mp hb2]
        have am := h1 a ha
        have ne : D.eqv a x = false := by
          cases q : D.eqv a x with
          | false => rfl
          | true =>
            rw [List.any_eq_true.mpr ⟨a, am, q⟩] at hb
            cases hb
        cases q1 : ltD a x with
        | true => exact .inl rfl
        | false =>
          cases q2 : ltD x a with
          | true => exact .inr rfl
          | false =>
            rw [ltD_eqv (hal a (sub a am) x xm) q1 q2] at ne
            cases ne
    · refine ⟨fun y hy => ?_, h2, by omega⟩
      rw [tk]
      exact List.mem_append_left _ (h1 y hy)
  · rw [List.length_map, List.length_range, List.take_length] at h1
    rw [List.length_map, List.length_range] at h3
    refine da_nil ?_
    refine cd_sortD (okL_iff.mpr fun d hd => D.ok_mono (okL_iff.mp hok d (h1 d hd)) (by omega)) (fun x hx y hy => hal x (h1 x hx) y (h1 y hy)) (fun x hx => ht x (h1 x hx)) (by omega) ?_
    refine da_nil ?_
    refine cd_tuple ?_
    have p : (ds.mergeSort leD).Perm ds := List.mergeSort_perm ds leD
    exact hΦ _ (fun y hy => h1 y (p.mem_iff.mp hy)) (asc_sort h2) (by rw [p.length_eq]; exact h3)
end
end Fr
end
-- FrL8
section
set_option Elab.async false
set_option linter.all false
set_option maxRecDepth 100000
/-! The walks: sums papers drawn. -/
namespace Fr
open PySem PySem.Spec PyProof.Rows L2
-- macros
local macro_rules | `(tactic| walk_at "side") => `(tactic| first | assumption | omega | rfl | decide)
local macro_rules | `(tactic| walk_at "cm") => `(tactic| first | exact .inl ⟨by omega, by omega⟩ | exact .inr ⟨by omega, by omega⟩)
local macro_rules | `(tactic| walk_at "len") => `(tactic| first | decide | (show _ ≤ sizeLine; simp only [List.length_cons, List.length_nil]; decide))
local macro_rules | `(tactic| walk_at "add") => `(tactic| first | refine od_addI ?_ | refine od_addT (by walk_at "side") ?_ | refine od_addL (by walk_at "side") ?_)
local macro_rules | `(tactic| walk_at "mul") => `(tactic| first | refine od_mulI (by walk_at "cm") ?_ | refine od_mulT (by walk_at "side") (by walk_at "side") (by walk_at "side") ?_)
local macro_rules | `(tactic| walk_at "ok") => `(tactic| first | assumption | (simp only [D.ok, okL, Bool.and_true, Bool.true_and]; first | done | assumption | decide))
local macro_rules | `(tactic| walk_at "eq") => `(tactic| first | refine od_eqII ?_ | refine od_eq 20 20 (by walk_at "ok") (by walk_at "ok") (by omega) ?_)
local macro_rules | `(tactic| walk_at "ne") => `(tactic| first | refine od_neII ?_ | refine od_ne 20 20 (by walk_at "ok") (by walk_at "ok") (by omega) ?_)
local macro_rules | `(tactic| walk_at "slice") => `(tactic| first | refine .inl ⟨_, rfl, ?_⟩ | refine .inr ⟨_, rfl, ?_⟩)
local macro_rules | `(tactic| walk_at "vis") => `(tactic| first | exact .inl rfl | exact .inr (.inl rfl) | exact .inr (.inr rfl))
local macro_rules | `(tactic| walk_at "loc") => `(tactic| first | exact .inl rfl | exact .inr rfl)
local macro_rules | `(tactic| walk_at "locf") => `(tactic| first | exact .inr rfl | exact .inl rfl)
-- end macros
theorem all_wd {n : Nat} : ∀ {ys : List D}, (∀ y ∈ ys, ∃ l, y = wd l ∧ WdI n l) → ∃ ws : List (List Int), ys = ws.map wd ∧ ∀ r ∈ ws, WdI n r
  | [], _ => ⟨[], rfl, fun r hr => by cases hr⟩
  | y :: ys, h => by
    obtain ⟨l, rfl, hl⟩ := h y List.mem_cons_self
    obtain ⟨ws, rfl, hw⟩ := all_wd (ys := ys) fun z hz => h z (List.mem_cons_of_mem _ hz)
    refine ⟨l :: ws, rfl, fun r hr => ?_⟩
    rcases List.mem_cons.mp hr with rfl | hr
    · exact hl
    · exact hw r hr
theorem all_sq {n : Nat} : ∀ {ys : List D}, (∀ y ∈ ys, ∃ l, y = sq l ∧ SqI n l) → ∃ qs : List (List (List Int)), ys = qs.map sq ∧ ∀ r ∈ qs, SqI n r
  | [], _ => ⟨[], rfl, fun r hr => by cases hr⟩
  | y :: ys, h => by
    obtain ⟨l, rfl, hl⟩ := h y List.mem_cons_self
    obtain ⟨ws, rfl, hw⟩ := all_sq (ys := ys) fun z hz => h z (List.mem_cons_of_mem _ hz)
    refine ⟨l :: ws, rfl, fun r hr => ?_⟩
    rcases List.mem_cons.mp hr with rfl | hr
    · exact hl
    · exact hw r hr
theorem wd_tup {n : Nat} {l : List Int} (h : WdI n l) (h1 : 1 ≤ n) : ∃ z r, wd l = .tup (z :: r) := by
  cases l with
  | nil => have := h.len; simp at this; omega
  | cons x l => exact ⟨_, _, rfl⟩
theorem sq_tup {n : Nat} {l : List (List Int)} (h : SqI n l) (h1 : 1 ≤ n) : ∃ z r, sq l = .tup (z :: r) := by
  cases l with
  | nil => have := h.len; simp at this; omega
  | cons x l => exact ⟨_, _, rfl⟩
section
variable {P : Program} {w : World} {K : PySem.W.Frag} {mg : Str → Option Value} {base : Heap}
abbrev Nsp : List Str := ["_law_tape_here", "_law_n", "_law_word_here", "_law_words", "_law_k", "_law_squares", "_law_square_here"]
def sp__law_sums_paper : DSp := fun ds Φ _ => ∃ (n : Nat) (l : List Int), ds = [.tape, .int n, wd l] ∧ WdI n l ∧ 1 ≤ n ∧ n ≤ 12 ∧
  ∀ Q ws qs, SqI n Q → (∀ r ∈ ws, WdI n r) → (∀ r ∈ qs, SqI n r) → Asc (ws.map wd) → Asc (qs.map sq) → ws.length ≤ 3 → qs.length ≤ 3 → Φ (PSd n l Q ws qs)
theorem sc__law_sums_paper : FnScope Nsp ["_law_tape_here", "_law_n", "_law_word_here"] (defScope s_Lsums_paper) := ⟨rfl, rfl, rfl, by decide +kernel, rfl, by decide +kernel, by decide +kernel⟩
theorem ok__law_sums_paper (T : Tx K mg base) : Cal P w K mg base 6 "_law_sums_paper" sp__law_sums_paper := by
  refine cal_of T 38 rfl rfl sc__law_sums_paper (fun _ _ _ _ _ _ us hl => match us, hl with | [_, _, _], _ => rfl) (fun ds Φ Ψ ⟨_, _, h, _⟩ => by rw [h] <;> rfl) fun cdv A outer s H E hcd hr ds Φ Ψ h => ?_
  have sc := sc__law_sums_paper
  obtain ⟨n, l, rfl, hl, h1, h12, hΦ⟩ := h
  have big : (300 : Nat) ≤ sizeLine := by decide
  -- words
  refine dss_cons (ds_set 3 sc.nd rfl (.inl rfl) ?_)
  refine de_call (ok__law_distinct T) (hr.mono (by decide)) rfl ?_
  refine da_cons ?_
  refine de_lc 4 rfl sc.nd rfl (show BlkOk Nsp (defScope s_Lsums_paper) _ [("_law_k", 4)] from ⟨rfl, by decide +kernel, by decide +kernel, by decide +kernel, by decide +kernel⟩) (by walk_at "loc") (by walk_at "locf") ?_
  refine df_range rfl (b_range T) ?_
  refine de_call (ok__law_draw T) (hr.mono (by decide)) rfl ?_
  refine da_cons ?_
  refine de_var 0 rfl (by walk_at "vis") rfl ?_
  refine da_cons ?_
  refine de_int ?_
  refine da_nil ?_
  refine ⟨_, rfl, by omega, fun i i0 i4 => ⟨i.toNat, by rw [Int.toNat_of_nonneg i0], by omega, ?_⟩⟩
  refine ⟨by rw [List.length_map, List.length_range]; omega, fun j ds => ∃ ws : List (List Int), ds = ws.map wd ∧ (∀ r ∈ ws, WdI n r) ∧ ws.length = j, ⟨[], rfl, fun r hr => (by cases hr), rfl⟩, fun j y ds hy ⟨ws, e, hw, hj⟩ s0 H0 C cl fp => ?_, fun ds ⟨ws, e, hw, hj⟩ => ?_⟩
  · obtain ⟨_, rfl⟩ := range_at hy
    refine de_call (ok__law_word T) (hr.mono (by decide)) rfl ?_
    refine da_cons ?_
    refine de_var 0 rfl (by walk_at "vis") rfl ?_
    refine da_cons ?_
    refine de_var 1 rfl (by walk_at "vis") rfl ?_
    refine da_nil ?_
    refine ⟨n, rfl, by omega, fun r hr => ⟨ws ++ [r], by rw [e, List.map_append]; rfl, fun z hz => ?_, by rw [List.length_append, hj]; rfl⟩⟩
    rcases List.mem_append.mp hz with hz | hz
    · exact hw z hz
    · rw [List.mem_singleton.mp hz]; exact hr
  subst e
  rw [List.length_map, List.length_range] at hj
  refine da_nil ?_
  refine ⟨_, rfl, by rw [List.length_map]; omega, okL_iff.mpr fun d hd => ?_, fun x hx y hy => ?_, fun x hx => ?_, fun ys hys asc ly => ?_⟩
  · obtain ⟨r, _, rfl⟩ := List.mem_map.mp hd
    exact ok_wd r 6
  · obtain ⟨r, _, rfl⟩ := List.mem_map.mp hx
    obtain ⟨r', _, rfl⟩ := List.mem_map.mp hy
    exact al_wd r r'
  · obtain ⟨r, hr, rfl⟩ := List.mem_map.mp hx
    exact wd_tup (hw r hr) h1
  obtain ⟨us, rfl, hus⟩ := all_wd (n := n) (ys := ys) fun y hy => by
    obtain ⟨r, hr, e⟩ := List.mem_map.mp (hys y hy)
    exact ⟨r, e.symm, hw r hr⟩
  rw [List.length_map, List.length_map] at ly
  -- squares
  refine dss_cons (ds_set 5 sc.nd rfl (.inl rfl) ?_)
  refine de_call (ok__law_distinct T) (hr.mono (by decide)) rfl ?_
  refine da_cons ?_
  refine de_lc 4 rfl sc.nd rfl (show BlkOk Nsp (defScope s_Lsums_paper) _ [("_law_k", 4)] from ⟨rfl, by decide +kernel, by decide +kernel, by decide +kernel, by decide +kernel⟩) (by walk_at "loc") (by walk_at "locf") ?_
  refine df_range rfl (b_range T) ?_
  refine de_call (ok__law_draw T) (hr.mono (by decide)) rfl ?_
  refine da_cons ?_
  refine de_var 0 rfl (by walk_at "vis") rfl ?_
  refine da_cons ?_
  refine de_int ?_
  refine da_nil ?_
  refine ⟨_, rfl, by omega, fun i2 i20 i24 => ⟨i2.toNat, by rw [Int.toNat_of_nonneg i20], by omega, ?_⟩⟩
  refine ⟨by rw [List.length_map, List.length_range]; omega, fun j ds => ∃ ws : List (List (List Int)), ds = ws.map sq ∧ (∀ r ∈ ws, SqI n r) ∧ ws.length = j, ⟨[], rfl, fun r hr => (by cases hr), rfl⟩, fun j y ds hy ⟨ws, e, hw, hj⟩ s0 H0 C cl fp => ?_, fun ds ⟨ws2, e, hw2, hj2⟩ => ?_⟩
  · obtain ⟨_, rfl⟩ := range_at hy
    refine de_call (ok__law_square T) (hr.mono (by decide)) rfl ?_
    refine da_cons ?_
    refine de_var 0 rfl (by walk_at "vis") rfl ?_
    refine da_cons ?_
    refine de_var 1 rfl (by walk_at "vis") rfl ?_
    refine da_nil ?_
    refine ⟨n, rfl, h12, fun r hr => ⟨ws ++ [r], by rw [e, List.map_append]; rfl, fun z hz => ?_, by rw [List.length_append, hj]; rfl⟩⟩
    rcases List.mem_append.mp hz with hz | hz
    · exact hw z hz
    · rw [List.mem_singleton.mp hz]; exact hr
  subst e
  rw [List.length_map, List.length_range] at hj2
  refine da_nil ?_
  refine ⟨_, rfl, by rw [List.length_map]; omega, okL_iff.mpr fun d hd => ?_, fun x hx y hy => ?_, fun x hx => ?_, fun ys2 hys2 asc2 ly2 => ?_⟩
  · obtain ⟨r, _, rfl⟩ := List.mem_map.mp hd
    exact ok_sq r 5
  · obtain ⟨r, _, rfl⟩ := List.mem_map.mp hx
    obtain ⟨r', _, rfl⟩ := List.mem_map.mp hy
    exact al_sq r r'
  · obtain ⟨r, hr, rfl⟩ := List.mem_map.mp hx
    exact sq_tup (hw2 r hr) h1
  obtain ⟨vs, rfl, hvs⟩ := all_sq (n := n) (ys := ys2) fun y hy => by
    obtain ⟨r, hr, e⟩ := List.mem_map.mp (hys2 y hy)
    exact ⟨r, e.symm, hw2 r hr⟩
  rw [List.length_map, List.length_map] at ly2
  -- the square
  refine dss_cons (ds_set 6 sc.nd rfl (.inl rfl) ?_)
  refine de_call (ok__law_near_square T) hr rfl ?_
  refine da_cons ?_
  refine de_var 0 rfl (by walk_at "vis") rfl ?_
  refine da_cons ?_
  refine de_var 2 rfl (.inl rfl) rfl ?_
  refine da_nil ?_
  refine ⟨n, l, rfl, hl, h1, h12, fun Q hQ => ?_⟩
  refine dss_one (ds_ret ?_)
  refine de_dict ["n", "word", "square", "words", "squares"] (pps_cons pe_str pe_E (pps_cons pe_str pe_E (pps_cons pe_str pe_E (pps_cons pe_str pe_E (pps_cons pe_str pe_E pps_nil))))) rfl rfl (by simp) (by decide) rfl (fun vs hl => match vs, hl with | [_, _, _, _, _], _ => rfl) (by decide +kernel) ?_
  refine de_var 1 rfl (by walk_at "vis") rfl ⟨by rw [D.pl], ?_⟩
  refine de_var 2 rfl (.inl rfl) rfl ⟨D.ok_pl (ok_wd l 0), ?_⟩
  refine de_var 6 rfl (.inl rfl) rfl ⟨D.ok_pl (ok_sq Q 0), ?_⟩
  refine de_var 3 rfl (.inl rfl) rfl ⟨D.ok_pl (wds_ok us 0), ?_⟩
  refine de_var 5 rfl (.inl rfl) rfl ⟨D.ok_pl (sqs_ok vs 0), ?_⟩
  exact hΦ Q us vs hQ hus hvs asc asc2 (by omega) (by omega)
end
end Fr
end
-- FrRepr
section
set_option Elab.async false
set_option linter.all false
set_option maxRecDepth 100000
/-! repr of plain data. -/
namespace Fr
open PySem PySem.Spec PyProof.Rows L2
/-! ### how long a text is -/
mutual
def wtD : D → Nat
  | .non => 4
  | .bl _ => 5
  | .int i => (Str.ofString (toString i)).length
  | .str x => (reprText x).length
  | .tup l => wtL l + 3
  | .lst l => wtL l + 3
  | _ => 0
def wtL : List D → Nat
  | [] => 0
  | d :: l => wtD d + 2 + wtL l
end
theorem textFrom_le : ∀ (ts : List Str) (k : Nat) (acc : Str), (textFrom k acc ts).length ≤ acc.length + piled ts
  | [], k, acc => by show acc.length ≤ _; simp [piled]
  | t :: r, k, acc => by
    have ih := textFrom_le r (k + 1) (acc ++ (if k > 0 then ", " else "" : String) ++ t)
    have e : (acc ++ (if k > 0 then ", " else "" : String) ++ t).length ≤ acc.length + 2 + t.length := by
      rw [strLen_append, strLen_append]
      split
      · show acc.length + 2 + t.length ≤ _
        omega
      · show acc.length + 0 + t.length ≤ _
        omega
    rw [piled_cons]
    show (textFrom (k + 1) (acc ++ (if k > 0 then ", " else "" : String) ++ t) r).length ≤ _
    omega
mutual
theorem shown_le : ∀ {d : D}, d.pl = true → d.py.shown.length ≤ wtD d
  | .non, _ => by rw [D.py, wtD]; decide +kernel
  | .bl b, _ => by rw [D.py, wtD]; cases b <;> decide +kernel
  | .int i, _ => by rw [D.py, wtD, PyData.shown]; exact Nat.le_refl _
  | .str x, _ => by rw [D.py, wtD, PyData.shown]; exact Nat.le_refl _
  | .tup l, h => by
    rw [D.pl] at h
    rw [D.py, wtD, PyData.shown]
    have q := shownL_le h
    unfold tupleText
    rw [strLen_append, strLen_append]
    have e1 : ((("(" : String) : Str)).length = 1 := rfl
    have e2 : (((if (PyData.shownAll (pyL l)).length == 1 then ",)" else ")" : String) : Str)).length ≤ 2 := by
      split
      · show 2 ≤ 2; omega
      · show 1 ≤ 2; omega
    have e3 : (Str.join ", " (PyData.shownAll (pyL l))).length ≤ piled (PyData.shownAll (pyL l)) := by
      cases hs : PyData.shownAll (pyL l) with
      | nil => exact Nat.zero_le _
      | cons x r =>
        have := join_length_add (x :: r) (by simp)
        omega
    omega
  | .lst l, h => by
    rw [D.pl] at h
    rw [D.py, wtD, PyData.shown]
    have q := shownL_le h
    unfold listText
    rw [strLen_append]
    have e := textFrom_le (PyData.shownAll (pyL l)) 0 "["
    have e1 : ((("[" : String) : Str)).length = 1 := rfl
    have e2 : ((("]" : String) : Str)).length = 1 := rfl
    omega
  | .dic _, h => by rw [D.pl] at h; cases h
  | .obj _ _, h => by rw [D.pl] at h; cases h
  | .tape, h => by rw [D.pl] at h; cases h
  | .fnc _ _, h => by rw [D.pl] at h; cases h
  | .exn _ _ _ _, h => by rw [D.pl] at h; cases h
  | .scr _, h => by rw [D.pl] at h; cases h
theorem shownL_le : ∀ {l : List D}, plL l = true → piled (PyData.shownAll (pyL l)) ≤ wtL l
  | [], _ => by rw [pyL, PyData.shownAll, wtL]; simp [piled]
  | d :: l, h => by
    rw [plL, Bool.and_eq_true] at h
    rw [pyL, PyData.shownAll, wtL, piled_cons]
    have a := shown_le h.1
    have b := shownL_le h.2
    omega
end
/-! ### repr(x) -/
mutual
/-- ints that can be shown -/
def D.sh : D → Bool
  | .int i => decide (i.natAbs.log2 < 1920)
  | .tup l => shL l
  | .lst l => shL l
  | _ => true
def shL : List D → Bool
  | [] => true
  | d :: l => D.sh d && shL l
end
mutual
theorem sh_ok : ∀ {d : D}, d.pl = true → d.sh = true → d.py.showable = true ∧ d.py.hasDict = false
  | .non, _, _ => by rw [D.py]; simp [PyData.showable, PyData.hasDict]
  | .bl b, _, _ => by rw [D.py]; simp [PyData.showable, PyData.hasDict]
  | .int i, _, h => by rw [D.sh] at h; rw [D.py]; simp only [PyData.showable, PyData.hasDict]; exact ⟨h, trivial⟩
  | .str x, _, _ => by rw [D.py]; simp [PyData.showable, PyData.hasDict]
  | .tup l, p, h => by
    rw [D.pl] at p
    rw [D.sh] at h
    rw [D.py]
    simp only [PyData.showable, PyData.hasDict]
    exact shL_ok p h
  | .lst l, p, h => by
    rw [D.pl] at p
    rw [D.sh] at h
    rw [D.py]
    simp only [PyData.showable, PyData.hasDict]
    exact shL_ok p h
  | .dic _, h, _ => by rw [D.pl] at h; cases h
  | .obj _ _, h, _ => by rw [D.pl] at h; cases h
  | .tape, h, _ => by rw [D.pl] at h; cases h
  | .fnc _ _, h, _ => by rw [D.pl] at h; cases h
  | .exn _ _ _ _, h, _ => by rw [D.pl] at h; cases h
  | .scr _, h, _ => by rw [D.pl] at h; cases h
theorem shL_ok : ∀ {l : List D}, plL l = true → shL l = true → PyData.showableAll (pyL l) = true ∧ PyData.hasDictAll (pyL l) = false
  | [], _, _ => by rw [pyL]; simp [PyData.showableAll, PyData.hasDictAll]
  | d :: l, p, h => by
    rw [plL, Bool.and_eq_true] at p
    rw [shL, Bool.and_eq_true] at h
    obtain ⟨a1, a2⟩ := sh_ok p.1 h.1
    obtain ⟨b1, b2⟩ := shL_ok p.2 h.2
    rw [pyL]
    simp only [PyData.showableAll, PyData.hasDictAll, a1, a2, b1, b2]
    exact ⟨rfl, rfl⟩
end
section
variable {X : Cx} {Φ : D → Prop}
def rReprD (K : PySem.W.Frag) : List V → Hp → VK → Prop := fun vs H Q => ∃ x d, vs = [x] ∧ Dp K H x d ∧ d.showable = true ∧ d.hasDict = false ∧ d.depth ≤ 60 ∧ d.shown.length ≤ sizeLine ∧ Q (.str d.shown) H
theorem cr_reprD (hg : X.A.guards = some []) (hu : X.A.units + 64 < cLine) : CallR X (.builtin "repr") (rReprD X.K) := by
  intro pins s σ H vs us Q I r ⟨x, d, ev, hd, sh, nd, dp, sz, q⟩
  subst ev
  obtain ⟨u, rfl, ru⟩ := vals1 r
  obtain ⟨as, rd⟩ := Dp.reads I d x u hd ru
  have grown : ∀ (h' : Heap) (tk tk2 : Tok), (∀ b o, s.heap.get? b = some o → h'.get? b = some o) → EP X pins σ Q (.str d.shown tk2) { s with heap := h', toks := tk } := fun h' tk tk2 k => ⟨.str d.shown, H, I.kept (t' := tk) k, ⟨_, rfl⟩, q⟩
  have ref : ∀ a, u = .ref a → wpAny (model X.prog X.w) X.A (call (.builtin "repr") [u]) (EP X pins σ Q) X.xe s := fun a e => by
    subst e
    exact repr_of_reads' rd sh (PyData.noDict_hsm nd) hg (by omega) (fun _ _ e => e) (fun h' u tk k => grown h' tk u k) sz
  cases d with
  | int i =>
    cases rd
    exact PySem.P.repr_of_int (by simpa [PyData.showable] using sh) (grown s.heap _ _ fun _ _ e => e)
  | list l =>
    cases rd
    exact ref _ rfl
  | tuple l =>
    cases rd
    exact ref _ rfl
  | none =>
    cases rd
    exact PySem.P.repr_of_none (grown s.heap _ _ fun _ _ e => e)
  | bool b =>
    cases rd
    refine PySem.P.repr_of_bool ?_
    have g := grown s.heap (s.toks + 1) (s.toks) fun _ _ e => e
    cases b <;> exact g
  | str x =>
    cases rd
    exact PySem.P.repr_of_str (grown s.heap _ _ fun _ _ e => e) sz
  | dict _ => simp [PyData.hasDict] at nd
theorem cd_repr {d : D} {n : Nat} (h0 : d.ok n = true) (hn : n ≤ 60) (h1 : d.sh = true) (h2 : wtD d ≤ sizeLine) (h : Φ (.str d.py.shown)) : CD X (rReprD X.K) [d] Φ := fun H vs Q dl k => by
  have p := D.ok_pl h0
  have q := sh_ok p h1
  cases dl with
  | cons hd r =>
    cases r
    exact ⟨_, d.py, rfl, dp_of hd p, q.1, q.2, Nat.le_trans (D.ok_lay h0).2 hn, Nat.le_trans (shown_le p) h2, k _ _ H h (Kp.refl _ _) (.str _)⟩
end
end Fr
end
-- FrG
section
set_option Elab.async false
set_option linter.all false
set_option maxRecDepth 100000
/-! Defs that show containers: their promise knows the guards. -/
namespace Fr
open PySem PySem.Spec PyProof.Rows L2
/-- a def called by its name where no guard stands -/
structure CalG (P : Program) (w : World) (K : PySem.W.Frag) (mg : Str → Option Value) (base : Heap) (k : Nat) (x : Str) (sp : DSp) : Prop where
  gl : mg x = some (.ref (He.ga K x))
  kp : PySem.W.keepIn K (.ref (He.ga K x)) = true
  run : ∀ (A : Around) (outer : List PySem.Env) (s : Shared) (H : Hp) (us : List Value) (vs : List V) (Q : VK), Room k A → A.guards = some [] → Env0 P w K mg base A outer s H → Vals vs us → toSp K sp vs H Q E0 →
    codeAny (model P w) A (.call (.ref (He.ga K x)) ⟨us, []⟩) (CR (L2.CX P w) outer P w H s Q E0) s
theorem guards_deeper {A : Around} {env : PySem.Env} (h : A.guards = some []) : (A.deeper env).guards = some [] := h
section
variable {P : Program} {w : World} {K : PySem.W.Frag} {mg : Str → Option Value} {base : Heap}
theorem calG_of {x : Str} {st : Stmt} {N ps : List Str} {k : Nat} {sp : DSp} (T : Tx K mg base) (i : Nat) (hi : fn[i]? = some (dd x st)) (hj : fa[i]? = some (.glo x)) (S : FnScope N ps (defScope st))
    (b : ∀ (kV doc pm : Value) (an : Option Addr) (cdv ct : Value) (us : List Value), us.length = ps.length → bindArgs (PySem.W.fnOf x x (defArgs st) (defBody st) (defScope st) .none kV doc pm an cdv ct) ⟨us, []⟩ = pure (ps.zip us))
    (len : ∀ ds Φ Ψ, sp ds Φ Ψ → ds.length = ps.length)
    (hbody : ∀ (cdv : Value) (A : Around) (outer : List PySem.Env) (s : Shared) (H : Hp) (E : XK), cdv = .ref (He.cT K (x, none)).1 → A.guards = some [] → Room k (A.deeper (envOfC x (defScope st) s.heap.objs.size (He.ga K x) cdv)) → ∀ ds Φ Ψ, sp ds Φ Ψ →
      DSs (bcx P w K mg base N x (defScope st) (He.ga K x) cdv A outer s H E) (defBody st) (startD N ds) { nx := fun _ => Φ .non, rt := Φ, ex := Ψ }) : CalG P w K mg base (k + 1) x sp := by
  obtain ⟨fd, F⟩ := fn_at T i hi
  have bd := F.bindsN b
  refine ⟨T.glo i hj, F.kp, fun A outer s H us vs Q hr hg e0 r hs => ?_⟩
  obtain ⟨oc, od, dV, kV, doc, pm, an, cdv, ct, osl, rfl, lk, hcd, _, _⟩ := F.ex
  have ec : cdv = .ref (He.cT K (x, none)).1 := by
    obtain ⟨c, e⟩ := He.codeIn_ref hcd
    rw [e]
    exact congrArg Value.ref (He.codeOf_eq (p := (x, none)) lk e).symm
  obtain ⟨ds, Φ, Ψ, hd, ht, h, k1, k2⟩ := hs
  have l1 : vs.length = ps.length := by rw [hd.length]; exact len ds Φ Ψ h
  have b1 := bd s us (e0.mod.kin.keeps fun b o e => (e0.bs b o e).1) (by rw [List.append_nil, ← r.length]; exact l1)
  rw [List.append_nil] at b1
  refine LamX.run_ofS lk hcd S hr e0 b1 r l1 fun hr' => ?_
  exact ⟨tSs _ (defBody st), pss_S, hbody cdv A outer s H E0 ec hg hr' ds Φ Ψ h H _ H _ (fun cls d _ H => E0 cls d H) (takes_of rfl rfl rfl rfl) (start_ok ht hd)
    ⟨fun δ σ H' p s' => k1 _ _ H' p s'.kp .non, fun d v H' p kp hd => k1 d v H' p kp hd, fun _ _ _ p => p.elim, fun _ _ _ p => p.elim, fun c ds dx fs σ H' p kp e hf => k2 c ds dx fs H' p kp e hf⟩⟩
end
section
variable {X : Cx} {δ : List Sl} {Φ : D → Prop} {e : Expr} {es : List Expr} {p pos : Pos} {x : Str} {k : Nat} {sp : DSp}
theorem de_callG (C : CalG X.prog X.w X.K X.mg X.base k x sp) (hr : Room k X.A) (hgd : X.A.guards = some []) (hg : Gl X x) (h : DA X (e :: es) δ fun ds => sp ds Φ no2) (hdb : (x == ("__debug__" : Str)) = false := by decide)
    (he : starEach (e :: es) X.env = (false, eval e X.env) :: starEach es X.env := by rfl) (hpl : (backTo pos (starEach es X.env)).any (·.1) = false := by rfl) : DE X (.Call (.Name x p) (e :: es) [] pos) δ Φ := fun σ H Q en kk pins s I => by
  refine wpAny_Call_Name_kw (ld_glob I hg C.gl ?_ hdb)
  refine PySem.W.callWith_K (first := []) (h₀ := X.base) I.ok.mod.kin C.kp (thn (h σ H (fun vs H1 => ∃ ds, sp ds Φ no2 ∧ Kp X.K H H1 ∧ DatL X.K H1 vs ds) en (fun ds vs H1 q k1 d1 => ⟨ds, q, k1, d1⟩) pos pins s I) fun us s1 ⟨vs, H1, I1, r, ds, q, k1, d1⟩ => ⟨I1.kIn, ?_⟩) he hpl
  refine wpAny_call (codeAny_mono (C.run X.A X.stack s1 H1 us vs Q hr hgd I1.env0 r ⟨ds, Φ, no2, d1, (en.keep k1).1, q, fun d u H2 p k2 hd => kk d u H2 p (k1.trans k2) hd, kx_no⟩) fun R s' hq => ?_)
  match R, hq with
  | .error z, hq => exact passL pins σ H1 s1 z s' I1 hq
  | .ok (.ret z), hq => exact I1.after hq
end
end Fr
end
-- FrL9
section
set_option Elab.async false
set_option linter.all false
set_option maxRecDepth 100000
/-! The walks: letters asked of any paper; what is refused. -/
namespace Fr
open PySem PySem.Spec PyProof.Rows L2
-- macros
local macro_rules | `(tactic| walk_at "side") => `(tactic| first | assumption | omega | rfl | decide)
local macro_rules | `(tactic| walk_at "cm") => `(tactic| first | exact .inl ⟨by omega, by omega⟩ | exact .inr ⟨by omega, by omega⟩)
local macro_rules | `(tactic| walk_at "len") => `(tactic| first | decide | (show _ ≤ sizeLine; simp only [List.length_cons, List.length_nil]; decide))
local macro_rules | `(tactic| walk_at "add") => `(tactic| first | refine od_addI ?_ | refine od_addT (by walk_at "side") ?_ | refine od_addL (by walk_at "side") ?_)
local macro_rules | `(tactic| walk_at "mul") => `(tactic| first | refine od_mulI (by walk_at "cm") ?_ | refine od_mulT (by walk_at "side") (by walk_at "side") (by walk_at "side") ?_)
local macro_rules | `(tactic| walk_at "ok") => `(tactic| first | assumption | (simp only [D.ok, okL, Bool.and_true, Bool.true_and]; first | done | assumption | decide))
local macro_rules | `(tactic| walk_at "eq") => `(tactic| first | refine od_eqII ?_ | refine od_eq 20 20 (by walk_at "ok") (by walk_at "ok") (by omega) ?_)
local macro_rules | `(tactic| walk_at "ne") => `(tactic| first | refine od_neII ?_ | refine od_ne 20 20 (by walk_at "ok") (by walk_at "ok") (by omega) ?_)
local macro_rules | `(tactic| walk_at "slice") => `(tactic| first | refine .inl ⟨_, rfl, ?_⟩ | refine .inr ⟨_, rfl, ?_⟩)
local macro_rules | `(tactic| walk_at "vis") => `(tactic| first | exact .inl rfl | exact .inr (.inl rfl) | exact .inr (.inr rfl))
local macro_rules | `(tactic| walk_at "loc") => `(tactic| first | exact .inl rfl | exact .inr rfl)
local macro_rules | `(tactic| walk_at "locf") => `(tactic| first | exact .inr rfl | exact .inl rfl)
-- end macros
/-- a paper of the program, and of the law -/
inductive Pap (n : Nat) : D → D → Prop where
  | t {f g : List Int} (hf : WdI (2 ^ n) f) (hg : WdI (2 ^ (n * n)) g) : Pap n (TObj n f g) (PTd n f g)
  | s {v : List Int} {q : List (List Int)} {ws : List (List Int)} {qs : List (List (List Int))} (hv : WdI n v) (hq : SqI n q) (hw : ∀ r ∈ ws, WdI n r) (hs : ∀ r ∈ qs, SqI n r) (aw : Asc (ws.map wd)) (as : Asc (qs.map sq)) (lw : ws.length ≤ 3) (ls : qs.length ≤ 3) : Pap n (SObj n v q ws qs) (PSd n v q ws qs)
section
variable {P : Program} {w : World} {K : PySem.W.Frag} {mg : Str → Option Value} {base : Heap}
/-- a letter asked of a paper of the program -/
def AskP (P : Program) (w : World) (K : PySem.W.Frag) (mg : Str → Option Value) (base : Heap) (po : D) (m : Str) (d : D) (Φ : D → Prop) (Ψ : Nat → List D → Prop) : Prop := ∃ c l k sp, po = .obj c l ∧ k ≤ 13 ∧ Met P w K mg base k c m sp ∧ sp [po, d] Φ Ψ
abbrev bit (x : Int) : Prop := x = 0 ∨ x = 1
theorem letF_bit {f : List Int} (h : bitsI f) (l : List Int) : bit (letF f l) := by
  unfold letF
  cases q : f[(bnum l).toNat]? with
  | none => exact .inl rfl
  | some x => exact h x (List.mem_of_getElem? q)
theorem mod2 (x : Int) : bit (x % 2) := by unfold bit; omega
theorem pap_f (T : Tx K mg base) {n : Nat} {po pd : D} (h : Pap n po pd) (h1 : 1 ≤ n) (h12 : n ≤ 12) {l : List Int} (hl : WdI n l) : ∃ x : Int, bit x ∧ (∀ Φ : D → Prop, Φ (.int x) → AskP P w K mg base po "letter_f" (wd l) Φ no2) ∧ ∀ Φ : D → Prop, Φ (.int x) → sp__law_letter [pd, .tup [.str "f", wd l]] Φ no2 := by
  have nw : isWord (wd l) n = false → False := fun q => by
    rw [wd_word hl.bits (by rw [hl.len]; exact h1) (by rw [hl.len]; exact h12) (by rw [hl.len])] at q
    cases q
  cases h with
  | @t f g hf hg => exact ⟨letF f l, letF_bit hf.bits l, fun Φ hx => ⟨0, _, 8, _, rfl, by omega, mt_tlf T, n, f, g, _, rfl, h12, h1, ok_wd l 8, hf.len, fun q => (nw q).elim, fun l' e hl' => by rw [← wd_inj e]; exact hx⟩,
      fun Φ hx => ⟨n, _, _, _, rfl, h12, .inl ⟨l, rfl, rfl, hl, .inl ⟨f, g, rfl, hf.len, hx⟩⟩⟩⟩
  | @s v q ws qs hv hq _ _ _ _ _ _ => exact ⟨sumF v ws l, mod2 _, fun Φ hx => ⟨1, _, 9, _, rfl, by omega, mt_slf T, n, v, q, ws, qs, _, rfl, h12, h1, ok_wd l 8, hv, fun q => (nw q).elim, fun l' e hl' => by rw [← wd_inj e]; exact hx⟩,
      fun Φ hx => ⟨n, _, _, _, rfl, h12, .inl ⟨l, rfl, rfl, hl, .inr ⟨v, q, ws, qs, rfl, hv, hx⟩⟩⟩⟩
theorem pap_g (T : Tx K mg base) {n : Nat} {po pd : D} (h : Pap n po pd) (h1 : 1 ≤ n) (h12 : n ≤ 12) {L : List (List Int)} (hl : SqI n L) : ∃ x : Int, bit x ∧ (∀ Φ : D → Prop, Φ (.int x) → AskP P w K mg base po "letter_g" (sq L) Φ no2) ∧ ∀ Φ : D → Prop, Φ (.int x) → sp__law_letter [pd, .tup [.str "g", sq L]] Φ no2 := by
  have nw : isMat (sq L) n = false → False := fun q => by
    rw [sq_isMat hl h1 h12] at q
    cases q
  cases h with
  | @t f g hf hg => exact ⟨letF g L.flatten, letF_bit hg.bits _, fun Φ hx => ⟨0, _, 10, _, rfl, by omega, mt_tlg T, n, f, g, _, rfl, h12, h1, ok_sq L 7, hg.len, fun q => (nw q).elim, fun l' e hl' => by rw [← sq_inj e]; exact hx⟩,
      fun Φ hx => ⟨n, _, _, _, rfl, h12, .inr ⟨L, rfl, rfl, hl, .inl ⟨f, g, rfl, hg.len, hx⟩⟩⟩⟩
  | @s v q ws qs hv hq _ _ _ _ _ _ => exact ⟨sumG q qs L, mod2 _, fun Φ hx => ⟨1, _, 13, _, rfl, by omega, mt_slg T, n, v, q, ws, qs, _, rfl, h12, h1, ok_sq L 7, hq, fun q => (nw q).elim, fun l' e hl' => by rw [← sq_inj e]; exact hx⟩,
      fun Φ hx => ⟨n, _, _, _, rfl, h12, .inr ⟨L, rfl, rfl, hl, .inr ⟨v, q, ws, qs, rfl, hq, hx⟩⟩⟩⟩
theorem pap_fx (T : Tx K mg base) {n : Nat} {po pd d : D} (h : Pap n po pd) (h1 : 1 ≤ n) (h12 : n ≤ 12) (hd : d.ok 9 = true) (hw : isWord d n = false)   : ∃ c l k sp, po = .obj c l ∧ k ≤ 13 ∧ Met P w K mg base k c "letter_f" sp ∧ ∀ (Φ : D → Prop) (Ψ : Nat → List D → Prop), Ψ 0 [d] → sp [po, d] Φ Ψ := by
  have no : ∀ l, d = wd l → WdI n l → False := fun l e hl => by
    rw [e, wd_word hl.bits (by rw [hl.len]; exact h1) (by rw [hl.len]; exact h12) (by rw [hl.len])] at hw
    cases hw
  cases h with
  | @t f g hf hg => exact ⟨0, _, 8, _, rfl, by omega, mt_tlf T, fun Φ Ψ hx => ⟨n, f, g, _, rfl, h12, h1, hd, hf.len, fun _ => hx, fun l e hl => (no l e hl).elim⟩⟩
  | @s v q ws qs hv hq _ _ _ _ _ _ => exact ⟨1, _, 9, _, rfl, by omega, mt_slf T, fun Φ Ψ hx => ⟨n, v, q, ws, qs, _, rfl, h12, h1, hd, hv, fun _ => hx, fun l e hl => (no l e hl).elim⟩⟩
theorem pap_gx (T : Tx K mg base) {n : Nat} {po pd d : D} (h : Pap n po pd) (h1 : 1 ≤ n) (h12 : n ≤ 12) (hd : d.ok 9 = true) (hw : isMat d n = false)   : ∃ c l k sp, po = .obj c l ∧ k ≤ 13 ∧ Met P w K mg base k c "letter_g" sp ∧ ∀ (Φ : D → Prop) (Ψ : Nat → List D → Prop), Ψ 1 [d] → sp [po, d] Φ Ψ := by
  have no : ∀ l, d = sq l → SqI n l → False := fun l e hl => by
    rw [e, sq_isMat hl h1 h12] at hw
    cases hw
  cases h with
  | @t f g hf hg => exact ⟨0, _, 10, _, rfl, by omega, mt_tlg T, fun Φ Ψ hx => ⟨n, f, g, _, rfl, h12, h1, hd, hg.len, fun _ => hx, fun l e hl => (no l e hl).elim⟩⟩
  | @s v q ws qs hv hq _ _ _ _ _ _ => exact ⟨1, _, 13, _, rfl, by omega, mt_slg T, fun Φ Ψ hx => ⟨n, v, q, ws, qs, _, rfl, h12, h1, hd, hq, fun _ => hx, fun l e hl => (no l e hl).elim⟩⟩
def sp__law_no_letter : DSp := fun ds Φ _ => ∃ (n : Nat) (po pd a b : D), ds = [po, a, b] ∧ Pap n po pd ∧ 1 ≤ n ∧ n ≤ 12 ∧ a.ok 9 = true ∧ b.ok 9 = true ∧ isWord a n = false ∧ isMat b n = false ∧ a.sh = true ∧ b.sh = true ∧ wtD a + wtD b + 20 ≤ sizeLine ∧ Φ (.str (D.lst [a, b]).py.shown)
theorem sc__law_no_letter : FnScope ["_law_paper", "_law_word_here", "_law_square_here", "_law_found", "e"] ["_law_paper", "_law_word_here", "_law_square_here"] (defScope s_Lno_letter) := ⟨rfl, rfl, rfl, by decide +kernel, rfl, by decide +kernel, by decide +kernel⟩
theorem ok__law_no_letter (T : Tx K mg base) : CalG P w K mg base 14 "_law_no_letter" sp__law_no_letter := by
  refine calG_of T 44 rfl rfl sc__law_no_letter (fun _ _ _ _ _ _ us hl => match us, hl with | [_, _, _], _ => rfl) (fun ds Φ Ψ ⟨_, _, _, _, _, h, _⟩ => by rw [h] <;> rfl) fun cdv A outer s H E hcd hgd hr ds Φ Ψ h => ?_
  have sc := sc__law_no_letter
  obtain ⟨n, po, pd, a, b, rfl, hp, h1, h12, ha, hb, na, nb, sa, sb, hwt, hΦ⟩ := h
  have X0 := exIs_of T 0
  have X1 := exIs_of T 1
  refine dss_lstO 3 sc.nd rfl (.inl rfl) ?_
  refine da_nil ⟨by walk_at "len", ?_⟩
  refine dss_then (fun δ' => δ' = [.b po, .b a, .b b, .ow [a], .no]) ?_ fun δ' e => ?_
  · refine ds_try (i := 4) (C := He.ga K "InvalidWord") (fun _ => true) rfl rfl sc.nd rfl rfl rfl (T.glo 51 rfl) ?_
    obtain ⟨c, l, k, sp, e, hk, M, hsp⟩ := pap_fx (P := P) (w := w) T hp h1 h12 ha na
    refine dx_meth M (hr.mono hk) fun pn xe => ?_
    refine de_var 0 rfl (.inl rfl) rfl ⟨l, e, ?_⟩
    refine da_cons ?_
    refine de_var 1 rfl (.inl rfl) rfl ?_
    refine da_nil (hsp _ _ ⟨true, exm_W T, rfl, fun ad dx oe pn hz hf => ?_⟩)
    refine dss_one (ds_appO 3 (l := []) rfl (.inl rfl) rfl rfl (by decide) ?_)
    refine de_xf (c := 0) X0 (no_val0 T) hz hf ?_
    refine de_var 4 rfl (.inl rfl) rfl ⟨dx, _, _, rfl, rfl, rfl, rfl⟩
  subst e
  refine dss_then (fun δ' => δ' = [.b po, .b a, .b b, .ow [a, b], .no]) ?_ fun δ' e => ?_
  · refine ds_try (i := 4) (C := He.ga K "InvalidSquare") (fun _ => true) rfl rfl sc.nd rfl rfl rfl (T.glo 52 rfl) ?_
    obtain ⟨c, l, k, sp, e, hk, M, hsp⟩ := pap_gx (P := P) (w := w) T hp h1 h12 hb nb
    refine dx_meth M (hr.mono hk) fun pn xe => ?_
    refine de_var 0 rfl (.inl rfl) rfl ⟨l, e, ?_⟩
    refine da_cons ?_
    refine de_var 2 rfl (.inl rfl) rfl ?_
    refine da_nil (hsp _ _ ⟨true, exm_S T, rfl, fun ad dx oe pn hz hf => ?_⟩)
    refine dss_one (ds_appO 3 (l := [a]) rfl (.inl rfl) rfl rfl (by show 1 < sizeLine; decide) ?_)
    refine de_xf (c := 1) X1 (no_val1 T) hz hf ?_
    refine de_var 4 rfl (.inl rfl) rfl ⟨dx, _, _, rfl, rfl, rfl, rfl⟩
  subst e
  refine dss_thaw 3 rfl rfl ?_
  refine dss_one (ds_ret ?_)
  refine de_callB (cr_reprD (guards_deeper hgd) hr.units) rfl (b_repr T) (by decide +kernel) ?_
  refine da_cons ?_
  refine de_var 3 rfl (.inl rfl) rfl ?_
  refine da_nil ?_
  have l2 : okL [a, b] 9 = true := okL_iff.mpr fun d hd => by
    rcases List.mem_cons.mp hd with rfl | hd
    · exact ha
    · rw [List.mem_singleton.mp hd]; exact hb
  have s2 : (D.lst [a, b]).sh = true := by
    show shL [a, b] = true
    rw [shL, shL, shL, sa, sb]
    rfl
  have w2 : wtD (D.lst [a, b]) ≤ sizeLine := by
    rw [wtD, wtL, wtL, wtL]
    omega
  exact cd_repr (n := 10) (by rw [ok_lst]; exact l2) (by omega) s2 w2 hΦ
end
end Fr
end
-- FrBad
section
set_option Elab.async false
set_option linter.all false
set_option maxRecDepth 100000
/-! What the law hands in as none: its size, that it is none. -/
namespace Fr
open PySem PySem.Spec PyProof.Rows L2
/-- a flat thing, a row, a thing of rows -/
structure Fl (d : D) : Prop where
  ok : d.ok 0 = true
  sh : d.sh = true
  wt : wtD d ≤ 8
structure Rw (d : D) : Prop where
  ok : d.ok 1 = true
  sh : d.sh = true
  wt : wtD d ≤ 160
structure Sm (d : D) : Prop where
  ok : d.ok 8 = true
  sh : d.sh = true
  wt : wtD d ≤ 3000
theorem fl_bit {x : Int} (h : bit x) : Fl (.int x) := by
  rcases h with rfl | rfl <;> exact ⟨by decide +kernel, by decide +kernel, by decide +kernel⟩
theorem fl_non : Fl .non := ⟨by decide +kernel, by decide +kernel, by decide +kernel⟩
theorem fl_bl (b : Bool) : Fl (.bl b) := by cases b <;> exact ⟨by decide +kernel, by decide +kernel, by decide +kernel⟩
theorem fl_0 : Fl (.str "0") := ⟨by decide +kernel, by decide +kernel, by decide +kernel⟩
theorem fl_2 : Fl (.int 2) := ⟨by decide +kernel, by decide +kernel, by decide +kernel⟩
theorem fl_3 : Fl (.int 3) := ⟨by decide +kernel, by decide +kernel, by decide +kernel⟩
theorem fl_5 : Fl (.int 5) := ⟨by decide +kernel, by decide +kernel, by decide +kernel⟩
theorem fl_7 : Fl (.int 7) := ⟨by decide +kernel, by decide +kernel, by decide +kernel⟩
theorem Fl.rw {d : D} (h : Fl d) : Rw d := ⟨D.ok_mono h.ok (by omega), h.sh, by have := h.wt; omega⟩
theorem Rw.sm {d : D} (h : Rw d) : Sm d := ⟨D.ok_mono h.ok (by omega), h.sh, by have := h.wt; omega⟩
theorem Fl.sm {d : D} (h : Fl d) : Sm d := h.rw.sm
theorem Sm.ok9 {d : D} (h : Sm d) : d.ok 9 = true := D.ok_mono h.ok (by omega)
theorem wtL_le {k : Nat} : ∀ {l : List D}, (∀ d ∈ l, wtD d ≤ k) → wtL l ≤ l.length * (k + 2)
  | [], _ => by rw [wtL]; exact Nat.zero_le _
  | d :: l, h => by
    rw [wtL, List.length_cons, Nat.succ_mul]
    have a := h d List.mem_cons_self
    have b := wtL_le fun x hx => h x (List.mem_cons_of_mem _ hx)
    omega
theorem shL_of : ∀ {l : List D}, (∀ d ∈ l, d.sh = true) → shL l = true
  | [], _ => by rw [shL]
  | d :: l, h => by
    rw [shL, h d List.mem_cons_self, shL_of fun x hx => h x (List.mem_cons_of_mem _ hx)]
    rfl
theorem rw_tup {l : List D} (h : ∀ d ∈ l, Fl d) (hl : l.length ≤ 14) : Rw (.tup l) := by
  refine ⟨by rw [ok_tup]; exact okL_iff.mpr fun d hd => (h d hd).ok, ?_, ?_⟩
  · show shL l = true
    exact shL_of fun d hd => (h d hd).sh
  · show wtL l + 3 ≤ 160
    have := wtL_le (k := 8) fun d hd => (h d hd).wt
    omega
theorem rw_lst {l : List D} (h : ∀ d ∈ l, Fl d) (hl : l.length ≤ 14) : Rw (.lst l) := by
  refine ⟨by rw [ok_lst]; exact okL_iff.mpr fun d hd => (h d hd).ok, ?_, ?_⟩
  · show shL l = true
    exact shL_of fun d hd => (h d hd).sh
  · show wtL l + 3 ≤ 160
    have := wtL_le (k := 8) fun d hd => (h d hd).wt
    omega
theorem sm_tup {l : List D} (h : ∀ d ∈ l, Rw d) (hl : l.length ≤ 14) : Sm (.tup l) := by
  refine ⟨D.ok_mono (show (D.tup l).ok 2 = true by rw [ok_tup]; exact okL_iff.mpr fun d hd => (h d hd).ok) (by omega), ?_, ?_⟩
  · show shL l = true
    exact shL_of fun d hd => (h d hd).sh
  · show wtL l + 3 ≤ 3000
    have := wtL_le (k := 160) fun d hd => (h d hd).wt
    omega
theorem sm_lst {l : List D} (h : ∀ d ∈ l, Rw d) (hl : l.length ≤ 14) : Sm (.lst l) := by
  refine ⟨D.ok_mono (show (D.lst l).ok 2 = true by rw [ok_lst]; exact okL_iff.mpr fun d hd => (h d hd).ok) (by omega), ?_, ?_⟩
  · show shL l = true
    exact shL_of fun d hd => (h d hd).sh
  · show wtL l + 3 ≤ 3000
    have := wtL_le (k := 160) fun d hd => (h d hd).wt
    omega
theorem fl_ints {l : List Int} (h : bitsI l) : ∀ d ∈ l.map D.int, Fl d := fun d hd => by
  obtain ⟨x, hx, rfl⟩ := List.mem_map.mp hd
  exact fl_bit (h x hx)
theorem fl_more {l : List D} {x : D} (h : ∀ d ∈ l, Fl d) (hx : Fl x) : ∀ d ∈ l ++ [x], Fl d := fun d hd => by
  rcases List.mem_append.mp hd with hd | hd
  · exact h d hd
  · rw [List.mem_singleton.mp hd]; exact hx
theorem rw_more {l : List D} {x : D} (h : ∀ d ∈ l, Rw d) (hx : Rw x) : ∀ d ∈ l ++ [x], Rw d := fun d hd => by
  rcases List.mem_append.mp hd with hd | hd
  · exact h d hd
  · rw [List.mem_singleton.mp hd]; exact hx
theorem bits_init {l : List Int} (h : bitsI l) : bitsI l.dropLast := fun x hx => h x ((List.dropLast_sublist _).subset hx)
theorem rw_wd {l : List Int} (h : bitsI l) (hl : l.length ≤ 14) : Rw (wd l) := rw_tup (fl_ints h) (by rw [List.length_map]; exact hl)
theorem rw_wds {n : Nat} {L : List (List Int)} (h : ∀ r ∈ L, WdI n r) (hn : n ≤ 14) : ∀ d ∈ L.map wd, Rw d := fun d hd => by
  obtain ⟨r, hr, rfl⟩ := List.mem_map.mp hd
  exact rw_wd (h r hr).bits (by rw [(h r hr).len]; exact hn)
/-! ### no word of n bits -/
structure NoW (n : Nat) (d : D) : Prop where
  sm : Sm d
  no : isWord d n = false
theorem now_len {n : Nat} {d : D} (s : Sm d) (h : lenD d ≠ n) : NoW n d := ⟨s, by
  unfold isWord
  rw [beq_eq_false_iff_ne.mpr h, Bool.and_false]⟩
theorem now_bits {n : Nat} {d : D} (s : Sm d) (h : isBits d = false) : NoW n d := ⟨s, by
  unfold isWord isSome
  rw [h, Bool.false_and, Bool.false_and]⟩
theorem bits_more {l : List D} {x : D} (h : isBit x = false) : isBits (.tup (l ++ [x])) = false := by
  show (l ++ [x]).all isBit = false
  rw [List.all_append, List.all_cons, h, Bool.false_and, Bool.and_false]
theorem bits_less {l : List D} {x : D} (h : isBit x = false) : isBits (.tup (x :: l)) = false := by
  show (x :: l).all isBit = false
  rw [List.all_cons, h, Bool.false_and]
theorem now_more {n : Nat} {l : List Int} (hl : WdI n l) (h12 : n ≤ 12) {x : D} (hx : Fl x) : NoW n (.tup (l.map D.int ++ [x])) :=
  now_len (rw_tup (fl_more (fl_ints hl.bits) hx) (by rw [List.length_append, List.length_map, hl.len, List.length_singleton]; omega)).sm (by
    show ((((l.map D.int ++ [x]).length : Nat) : Int)) ≠ n
    rw [List.length_append, List.length_map, hl.len, List.length_singleton]
    omega)
theorem now_init {n : Nat} {l : List Int} (hl : WdI n l) (h1 : 1 ≤ n) (h12 : n ≤ 12) : NoW n (wd l.dropLast) :=
  now_len (rw_wd (bits_init hl.bits) (by rw [List.length_dropLast, hl.len]; omega)).sm (by
    rw [lenD_wd, List.length_dropLast, hl.len]
    omega)
theorem now_lst {n : Nat} {l : List Int} (hl : WdI n l) (h12 : n ≤ 12) : NoW n (.lst (l.map D.int)) := now_bits (rw_lst (fl_ints hl.bits) (by rw [List.length_map, hl.len]; omega)).sm rfl
theorem now_end {n : Nat} {l : List Int} (hl : WdI n l) (h12 : n ≤ 12) {x : D} (hx : Fl x) (nb : isBit x = false) : NoW n (.tup (l.dropLast.map D.int ++ [x])) :=
  now_bits (rw_tup (fl_more (fl_ints (bits_init hl.bits)) hx) (by rw [List.length_append, List.length_map, List.length_dropLast, hl.len, List.length_singleton]; omega)).sm (bits_more nb)
/-! ### no square of n -/
structure NoS (n : Nat) (d : D) : Prop where
  sm : Sm d
  no : isMat d n = false
theorem nos_len {n : Nat} {d : D} (s : Sm d) (h : lenD d ≠ n) : NoS n d := ⟨s, by
  unfold isMat
  rw [beq_eq_false_iff_ne.mpr h, Bool.false_and, Bool.and_false]⟩
theorem nos_tup {n : Nat} {d : D} (s : Sm d) (h : isTupB d = false) : NoS n d := ⟨s, by
  unfold isMat
  rw [h, Bool.false_and]⟩
theorem nos_row {n : Nat} {l : List D} {x : D} (s : Sm (.tup (l ++ [x]))) (h : isWord x n = false) : NoS n (.tup (l ++ [x])) := ⟨s, by
  unfold isMat
  have e : rowsW (.tup (l ++ [x])) n = false := by
    show (l ++ [x]).all (fun r => isWord r n) = false
    rw [List.all_append, List.all_cons, h, Bool.false_and, Bool.and_false]
  rw [e, Bool.and_false, Bool.and_false]⟩
theorem nos_wd {n : Nat} {l : List Int} (hl : WdI n l) (h1 : 1 ≤ n) (h12 : n ≤ 12) : NoS n (wd l) := by
  refine ⟨(rw_wd hl.bits (by rw [hl.len]; omega)).sm, ?_⟩
  unfold isMat
  have e : rowsW (wd l) n = false := by
    show (l.map D.int).all (fun r => isWord r n) = false
    cases l with
    | nil => have := hl.len; simp at this; omega
    | cons x l =>
      rw [List.map_cons, List.all_cons, show isWord (.int x) n = false from rfl, Bool.false_and]
  rw [e, Bool.and_false, Bool.and_false]
theorem nos_bad {n : Nat} {L : List (List Int)} {r : List Int} (hL : SqI n L) (hr : L.getLast? = some r) (h1 : 1 ≤ n) (h12 : n ≤ 12) : ∀ d ∈ badSq L r, NoS n d := fun d hd => by
  have wr : WdI n r := hL.rows r (List.mem_of_getLast? hr)
  have b2 : ∀ d ∈ badRow r, NoW n d := fun d hd => by
    unfold badRow at hd
    rcases List.mem_cons.mp hd with rfl | hd
    · exact now_end wr h12 fl_2 rfl
    rcases List.mem_cons.mp hd with rfl | hd
    · exact now_end wr h12 (fl_bl true) rfl
    rcases List.mem_cons.mp hd with rfl | hd
    · exact now_lst wr h12
    rcases List.mem_cons.mp hd with rfl | hd
    · exact now_init wr h1 h12
    rcases List.mem_cons.mp hd with rfl | hd
    · exact now_bits fl_non.sm rfl
    rw [List.mem_singleton.mp hd]
    exact now_end wr h12 fl_0 rfl
  have b3 : ∀ d ∈ badRow r, Rw d := fun d hd => by
    have i14 : (r.dropLast.map D.int ++ [D.non]).length ≤ 14 := by rw [List.length_append, List.length_map, List.length_dropLast, wr.len, List.length_singleton]; omega
    have fi := fl_ints (bits_init wr.bits)
    have fr : r.length ≤ 14 := by rw [wr.len]; omega
    rw [List.length_append, List.length_singleton] at i14
    unfold badRow at hd
    rcases List.mem_cons.mp hd with rfl | hd
    · exact rw_tup (fl_more fi fl_2) (by rw [List.length_append, List.length_singleton]; exact i14)
    rcases List.mem_cons.mp hd with rfl | hd
    · exact rw_tup (fl_more fi (fl_bl true)) (by rw [List.length_append, List.length_singleton]; exact i14)
    rcases List.mem_cons.mp hd with rfl | hd
    · exact rw_lst (fl_ints wr.bits) (by rw [List.length_map]; exact fr)
    rcases List.mem_cons.mp hd with rfl | hd
    · exact rw_wd (bits_init wr.bits) (by rw [List.length_dropLast]; omega)
    rcases List.mem_cons.mp hd with rfl | hd
    · exact fl_non.rw
    rw [List.mem_singleton.mp hd]
    exact rw_tup (fl_more fi fl_0) (by rw [List.length_append, List.length_singleton]; exact i14)
  obtain ⟨z, hz, rfl⟩ := List.mem_map.mp hd
  refine nos_row (sm_tup (rw_more (rw_wds (n := n) (fun q hq => hL.rows q ((List.dropLast_sublist _).subset hq)) (by omega)) (b3 z hz)) ?_) (b2 z hz).no
  rw [List.length_append, List.length_map, List.length_dropLast, hL.len, List.length_singleton]
  omega
end Fr
end
-- FrAux
section
set_option Elab.async false
set_option linter.all false
set_option maxRecDepth 100000
/-! Short roads for what the last defs do often. -/
namespace Fr
open PySem PySem.Spec PyProof.Rows L2
section
variable {X : Cx} {δ : List Sl} {Φ : D → Prop} {Φb : Bool → Prop} {a b e o : Expr} {p p1 p2 p3 p4 pos apos : Pos} {x m : Str} {j : Nat}
/-- x[:-1] -/
theorem de_init (h : DE X a δ fun d => ∃ l, d = .tup l ∧ Φ (.tup l.dropLast)) : DE X (.Subscript a (.Slice none (some (.UnaryOp .USub (.Constant (.int 1) j p1) p2)) none p3) pos) δ Φ := by
  refine de_sl (h.imp fun d ⟨l, ed, q⟩ => ?_)
  refine do_none ?_
  refine do_some ?_
  refine de_neg ?_
  refine de_int ?_
  refine ⟨_, rfl, _, rfl, .inl ⟨l, ed, ?_⟩⟩
  rw [cutL_init]
  exact q
/-- x[1:] -/
theorem de_rest (h : DE X a δ fun d => ∃ l, d = .tup l ∧ Φ (.tup (l.drop 1))) : DE X (.Subscript a (.Slice (some (.Constant (.int 1) j p1)) none none p3) pos) δ Φ := by
  refine de_sl (h.imp fun d ⟨l, ed, q⟩ => ?_)
  refine do_some ?_
  refine de_int ?_
  refine ⟨_, rfl, ?_⟩
  refine do_none ?_
  refine .inl ⟨l, ed, ?_⟩
  rw [cutL_from (by omega)]
  exact q
/-- x + (e,) -/
theorem de_more (h : DE X a δ fun d => ∃ l, d = .tup l ∧ l.length + 1 ≤ sizeLine ∧ DE X e δ fun z => Φ (.tup (l ++ [z]))) (hs : starEach [e] X.env = (false, eval e X.env) :: starEach [] X.env := by rfl) : DE X (.BinOp a .Add (.Tuple [e] j p1) pos) δ Φ := by
  refine de_op op_addU (h.imp fun d ⟨l, ed, hl, q⟩ => ?_)
  subst ed
  refine de_tup (da_cons (q.imp fun z r => da_nil ⟨?_, od_addT hl r⟩) hs)
  show 1 ≤ sizeLine
  decide
/-- (e,) + x -/
theorem de_less (h : DE X e δ fun z => DE X a δ fun d => ∃ l, d = .tup l ∧ l.length + 1 ≤ sizeLine ∧ Φ (.tup (z :: l))) (hs : starEach [e] X.env = (false, eval e X.env) :: starEach [] X.env := by rfl) : DE X (.BinOp (.Tuple [e] j p1) .Add a pos) δ Φ := by
  refine de_op op_addU (de_tup (da_cons (h.imp fun z q => da_nil ⟨?_, q.imp fun d ⟨l, ed, hl, r⟩ => ?_⟩) hs))
  · show 1 ≤ sizeLine
    decide
  · subst ed
    exact od_addT (l := [z]) (by rw [List.length_singleton]; omega) r
/-- list(x) -/
theorem de_toL (hg : Gl X "list") (hm : X.mg "list" = none) (h : DE X e δ fun d => ∃ l, d = .tup l ∧ Φ (.lst l)) (hs : starEach [e] X.env = (false, eval e X.env) :: starEach [] X.env := by rfl) : DE X (.Call (.Name "list" p) [e] [] pos) δ Φ := by
  refine de_callTy call_list_of hg hm (by decide +kernel) (da_cons (h.imp fun d ⟨l, ed, q⟩ => da_nil ?_) hs) (by decide) (by decide) hs
  subst ed
  exact cd_list rfl q
/-- len(x) -/
theorem de_len (hg : Gl X "len") (hm : X.mg "len" = none) (h : DE X e δ fun d => ∃ l, seqD d = some l ∧ Φ (.int l.length)) (hs : starEach [e] X.env = (false, eval e X.env) :: starEach [] X.env := by rfl) : DE X (.Call (.Name "len" p) [e] [] pos) δ Φ := by
  refine de_callB call_len_seq hg hm (by decide +kernel) (da_cons (h.imp fun d ⟨l, ed, q⟩ => da_nil ?_) hs) (by decide) (by decide) hs
  exact cd_len ed q
/-- repr(x) -/
theorem de_repr (hgd : X.A.guards = some []) (hu : X.A.units + 64 < cLine) (hg : Gl X "repr") (hm : X.mg "repr" = none) (h : DE X e δ fun d => ∃ n, d.ok n = true ∧ n ≤ 60 ∧ d.sh = true ∧ wtD d ≤ sizeLine ∧ Φ (.str d.py.shown)) (hs : starEach [e] X.env = (false, eval e X.env) :: starEach [] X.env := by rfl) : DE X (.Call (.Name "repr" p) [e] [] pos) δ Φ := by
  refine de_callB (cr_reprD hgd hu) hg hm (by decide +kernel) (da_cons (h.imp fun d ⟨n, h0, hn, h1, h2, q⟩ => da_nil ?_) hs) (by decide) (by decide) hs
  exact cd_repr h0 hn h1 h2 q
/-- a letter asked -/
theorem de_ask {po d : D} {pl : Sem Bool} (hr : Room 13 X.A) (K : AskP X.prog X.w X.K X.mg X.base po m d Φ no2) (ho : ∀ Ψ : D → Prop, Ψ po → DE X o δ Ψ) (h : ∀ Ψ : D → Prop, Ψ d → DE X e δ Ψ) (hst : starEach [e] X.env = (false, eval e X.env) :: starEach [] X.env := by rfl)
    (ht : eval (.Call (.Attribute o m apos) [e] [] pos) X.env = (do
      let ov ← eval o X.env
      standAt apos.atName
      let (f, first) ← holding [ov] (getMethod ov m pl)
      callWith pos f first (backTo pos (starEach [e] X.env)) (backToKw pos (keywordEach [] X.env))) := by rfl) : DE X (.Call (.Attribute o m apos) [e] [] pos) δ Φ := by
  obtain ⟨c, l, k, sp, ed, hk, M, q⟩ := K
  refine de_meth M (hr.mono hk) (ho _ ⟨l, ed, ?_⟩) hst rfl ht
  exact da_cons (h _ (da_nil q)) hst
/-! ### own ==, != -/
theorem exB (p : Prop) : ∃ r : Bool, (r = true ↔ p) := by
  by_cases h : p
  · exact ⟨true, fun _ => h, fun _ => rfl⟩
  · exact ⟨false, fun z => (by cases z), fun z => (h z).elim⟩
/-- what an operator gives on data where the tables stand -/
def ODT (X : Cx) (r : R2) (x y : D) (Φ : D → Prop) : Prop := ∀ H v w Q, Tabs X.K H → Dat X.K H v x → Dat X.K H w y → Kd X.K H Φ Q → r v w H Q
theorem de_cmpK {op : CmpOp} {r : R2} (ho : OpR X (compareOp op) r) (hm : behindInMarks op b = false) (h : DE X a δ fun x => DE X b δ fun y => ODT X r x y Φ) : DE X (.Compare a [op] [b] pos) δ Φ :=
  .of (pe_cmpR ho pe_E pe_E hm) fun σ H Q en k => two (ta := tE X a) (tb := tE X b) h en fun x y v w H' o kp d1 d2 en' => o H' v w Q en'.1 d1 d2 fun d u H2 p k2 => k d u H2 p (kp.trans k2)
theorem dt_cmpK {op : CmpOp} {r : R2} (ho : OpR X (compareOp op) r) (hm : behindInMarks op b = false) (h : DE X a δ fun x => DE X b δ fun y => ODT X r x y (isBl Φb)) : DT X (.Compare a [op] [b] pos) δ Φb :=
  .of (pt_cmpR ho pe_E pe_E hm) fun σ H Q en k => two (ta := tE X a) (tb := tE X b) h en fun x y v w H' o kp d1 d2 en' => o H' v w _ en'.1 d1 d2 fun d u H2 p k2 hd => by
    obtain ⟨z, rfl, p⟩ := p
    cases hd
    exact ⟨z, rfl, k z H2 p (kp.trans k2)⟩
theorem odt_T (T : Tx X.K X.mg X.base) {g : Bool → Bool} {n : Nat} {f f2 : List Int} {y : D} (oy : Oth y) (q : ∀ r : Bool, (r = true ↔ y = TObj n f f2) → Φ (.bl (g r))) : ODT X (rOwn X.K 0 sp_teq g) (TObj n f f2) y Φ := fun H v w Q t d1 d2 k => by
  cases d1 with
  | @obj ad dx _ fs _ hh hl =>
    obtain ⟨r, hr⟩ : ∃ r : Bool, (r = true ↔ y = TObj n f f2) := exB _
    refine ⟨ad, dx, fs, _, y, r, rfl, hh, hl, d2, nf_T (more_parts T.m) oy, t, ⟨n, f, f2, y, rfl, oy, fun r2 h2 => ?_⟩, fun H2 k2 => k _ _ H2 (q r hr) k2 (.bl _)⟩
    rw [Bool.eq_iff_iff.mpr (h2.trans hr.symm)]
abbrev SorT (d : D) : Prop := (∃ l, d = .tup l) ∨ ∃ n w q ws qs, d = SObj n w q ws qs
theorem odt_S (T : Tx X.K X.mg X.base) {g : Bool → Bool} {n : Nat} {v : List Int} {q : List (List Int)} {ws : List (List Int)} {qs : List (List (List Int))} {y : D} (oy : SorT y) (h : ∀ r : Bool, (r = true ↔ ∃ n', y = SObj n' v q ws qs) → Φ (.bl (g r))) : ODT X (rOwn X.K 1 sp_seq g) (SObj n v q ws qs) y Φ := fun H u w Q t d1 d2 k => by
  cases d1 with
  | @obj ad dx _ fs _ hh hl =>
    obtain ⟨r, hr⟩ : ∃ r : Bool, (r = true ↔ ∃ n', y = SObj n' v q ws qs) := exB _
    refine ⟨ad, dx, fs, _, y, r, rfl, hh, hl, d2, nf_S (more_parts T.m) oy, t, ⟨n, v, q, ws, qs, y, rfl, oy, fun r2 h2 => ?_⟩, fun H2 k2 => k _ _ H2 (h r hr) k2 (.bl _)⟩
    rw [Bool.eq_iff_iff.mpr (h2.trans hr.symm)]
end
theorem all_n {p : D → Prop} : ∀ d ∈ ([] : List D), p d := fun d hd => by cases hd
theorem all_c {p : D → Prop} {a : D} {l : List D} (h : p a) (t : ∀ d ∈ l, p d) : ∀ d ∈ a :: l, p d := fun d hd => by
  rcases List.mem_cons.mp hd with rfl | hd
  · exact h
  · exact t d hd
theorem all_a {p : D → Prop} {l m : List D} (h : ∀ d ∈ l, p d) (t : ∀ d ∈ m, p d) : ∀ d ∈ l ++ m, p d := fun d hd => by
  rcases List.mem_append.mp hd with hd | hd
  · exact h d hd
  · exact t d hd
end Fr
end
-- FrL10
section
set_option Elab.async false
set_option linter.all false
set_option maxRecDepth 100000
/-! The walks: a paper is as the law has it. -/
namespace Fr
open PySem PySem.Spec PyProof.Rows L2
-- macros
local macro_rules | `(tactic| walk_at "side") => `(tactic| first | assumption | omega | rfl | decide)
local macro_rules | `(tactic| walk_at "cm") => `(tactic| first | exact .inl ⟨by omega, by omega⟩ | exact .inr ⟨by omega, by omega⟩)
local macro_rules | `(tactic| walk_at "len") => `(tactic| first | decide | (show _ ≤ sizeLine; simp only [List.length_cons, List.length_nil]; decide))
local macro_rules | `(tactic| walk_at "add") => `(tactic| first | refine od_addI ?_ | refine od_addT (by walk_at "side") ?_ | refine od_addL (by walk_at "side") ?_)
local macro_rules | `(tactic| walk_at "mul") => `(tactic| first | refine od_mulI (by walk_at "cm") ?_ | refine od_mulT (by walk_at "side") (by walk_at "side") (by walk_at "side") ?_)
local macro_rules | `(tactic| walk_at "ok") => `(tactic| first | assumption | (simp only [D.ok, okL, Bool.and_true, Bool.true_and]; first | done | assumption | decide))
local macro_rules | `(tactic| walk_at "eq") => `(tactic| first | refine od_eqII ?_ | refine od_eq 20 20 (by walk_at "ok") (by walk_at "ok") (by omega) ?_)
local macro_rules | `(tactic| walk_at "ne") => `(tactic| first | refine od_neII ?_ | refine od_ne 20 20 (by walk_at "ok") (by walk_at "ok") (by omega) ?_)
local macro_rules | `(tactic| walk_at "slice") => `(tactic| first | refine .inl ⟨_, rfl, ?_⟩ | refine .inr ⟨_, rfl, ?_⟩)
local macro_rules | `(tactic| walk_at "vis") => `(tactic| first | exact .inl rfl | exact .inr (.inl rfl) | exact .inr (.inr rfl))
local macro_rules | `(tactic| walk_at "loc") => `(tactic| first | exact .inl rfl | exact .inr rfl)
local macro_rules | `(tactic| walk_at "locf") => `(tactic| first | exact .inr rfl | exact .inl rfl)
-- end macros
theorem pap_dic {n : Nat} {po pd : D} (h : Pap n po pd) : ∃ dl, pd = .dic dl ∧ dl.lookup ("n" : Str) = some (D.int n) ∧ (dl.lookup ("words" : Str) = none ∨ ∃ (ws : List (List Int)) (qs : List (List (List Int))), dl.lookup ("words" : Str) = some (.tup (ws.map wd)) ∧ dl.lookup ("squares" : Str) = some (.tup (qs.map sq)) ∧ (∀ r ∈ ws, WdI n r) ∧ (∀ r ∈ qs, SqI n r) ∧ ws.length ≤ 3 ∧ qs.length ≤ 3) := by
  cases h with
  | t hf hg => exact ⟨_, rfl, rfl, .inl rfl⟩
  | s hv hq hw hs aw as lw ls => exact ⟨_, rfl, rfl, .inr ⟨_, _, rfl, rfl, hw, hs, lw, ls⟩⟩
theorem first_w {n : Nat} {ws : List (List Int)} {l : List Int} (h : ∀ r ∈ ws, WdI n r) (hl : WdI n l) : ∃ l1, (ws.map wd ++ [wd l])[0]? = some (wd l1) ∧ WdI n l1 := by
  cases ws with
  | nil => exact ⟨l, rfl, hl⟩
  | cons r ws => exact ⟨r, rfl, h r List.mem_cons_self⟩
theorem first_s {n : Nat} {qs : List (List (List Int))} {L : List (List Int)} (h : ∀ r ∈ qs, SqI n r) (hl : SqI n L) : ∃ l1, (qs.map sq ++ [sq L])[0]? = some (sq l1) ∧ SqI n l1 := by
  cases qs with
  | nil => exact ⟨L, rfl, hl⟩
  | cons r ws => exact ⟨r, rfl, h r List.mem_cons_self⟩
theorem sizeBig : (10000000 : Nat) ≤ sizeLine := by decide
section
variable {P : Program} {w : World} {K : PySem.W.Frag} {mg : Str → Option Value} {base : Heap}
abbrev Nip : List Str := ["_law_tape_here", "_law_made_here", "_law_paper", "_law_n", "_law_k", "_law_word_here", "_law_square_here", "_law_bad", "_law_other"]
def sp__law_is_paper : DSp := fun ds Φ _ => ∃ (n : Nat) (po pd : D), ds = [.tape, po, pd] ∧ Pap n po pd ∧ 1 ≤ n ∧ n ≤ 12 ∧ Φ (.bl true)
theorem sc__law_is_paper : FnScope Nip ["_law_tape_here", "_law_made_here", "_law_paper"] (defScope s_Lis_paper) := ⟨rfl, rfl, rfl, by decide +kernel, rfl, by decide +kernel, by decide +kernel⟩
theorem ok__law_is_paper (T : Tx K mg base) : CalG P w K mg base 15 "_law_is_paper" sp__law_is_paper := by
  refine calG_of T 45 rfl rfl sc__law_is_paper (fun _ _ _ _ _ _ us hl => match us, hl with | [_, _, _], _ => rfl) (fun ds Φ Ψ ⟨_, _, _, h, _⟩ => by rw [h] <;> rfl) fun cdv A outer s H E hcd hgd hr ds Φ Ψ h => ?_
  have sc := sc__law_is_paper
  have hu := u1_of hr
  have big := sizeBig
  obtain ⟨n, po, pd, rfl, hp, h1, h12, hΦ⟩ := h
  obtain ⟨dl, ed, en, ew⟩ := pap_dic hp
  subst ed
  refine dss_cons (ds_set 3 sc.nd rfl (.inl rfl) ?_)
  refine de_dget hu ?_
  refine de_var 2 rfl (.inl rfl) rfl ?_
  refine de_str ?_
  refine ⟨dl, _, _, rfl, rfl, en, ?_⟩
  refine dss_cons (ds_forR 4 rfl (passes_of rfl) sc.nd rfl (.inl rfl) rfl (b_range T) ?_)
  refine de_int ?_
  refine ⟨4, rfl, by omega, fun j δ' => ∃ z4 z5 z6, δ' = [.b .tape, .b po, .b (.dic dl), .v (.int n), z4, z5, z6, .no, .no] ∧ (0 < j → ∃ l L, WdI n l ∧ SqI n L ∧ z5 = .v (wd l) ∧ z6 = .v (sq L)), ⟨.no, .no, .no, rfl, fun h => absurd h (by omega)⟩, fun j δ' hj ⟨z4, z5, z6, e, _⟩ => ?_, fun δ' ⟨z4, z5, z6, e, hw⟩ => ?_⟩
  · subst e
    refine dss_cons (ds_set 5 sc.nd rfl (.inl rfl) ?_)
    refine de_call (ok__law_word T) (hr.mono (by decide)) rfl ?_
    refine da_cons ?_
    refine de_var 0 rfl (.inl rfl) rfl ?_
    refine da_cons ?_
    refine de_var 3 rfl (.inl rfl) rfl ?_
    refine da_nil ?_
    refine ⟨n, rfl, by omega, fun l0 hl0 => ?_⟩
    refine dss_cons (ds_set 6 sc.nd rfl (.inl rfl) ?_)
    refine de_call (ok__law_square T) (hr.mono (by decide)) rfl ?_
    refine da_cons ?_
    refine de_var 0 rfl (.inl rfl) rfl ?_
    refine da_cons ?_
    refine de_var 3 rfl (.inl rfl) rfl ?_
    refine da_nil ?_
    refine ⟨n, rfl, h12, fun L0 hL0 => ?_⟩
    refine dss_then (fun δ' => ∃ l L, WdI n l ∧ SqI n L ∧ δ' = [.b .tape, .b po, .b (.dic dl), .v (.int n), .v (.int j), .v (wd l), .v (sq L), .no, .no]) ?_ fun δ' ⟨l, L, hl, hL, e⟩ => ?_
    · refine ds_if ?_
      refine dt_W ?_
      refine dw_and ?_
      refine dt_dic hu ?_
      refine de_str ?_
      refine de_var 2 rfl (.inl rfl) rfl ?_
      refine ⟨dl, _, rfl, rfl, ?_⟩
      rcases ew with ew | ⟨ws, qs, ew, eq, hws, hqs, lw, lq⟩
      · rw [ew]
        exact ⟨fun z => (by cases z), fun _ => ⟨fun z => (by cases z), fun _ => dss_nil ⟨l0, L0, hl0, hL0, rfl⟩⟩⟩
      · rw [ew]
        refine ⟨fun _ => ?_, fun z => (by cases z)⟩
        refine dw_one_and ?_
        refine dt_cmpO op_lt rfl ?_
        refine de_var 4 rfl (.inl rfl) rfl ?_
        refine de_int ?_
        refine od_ltI (isBl_of ⟨fun _ => ?_, fun _ => dss_nil ⟨l0, L0, hl0, hL0, rfl⟩⟩)
        obtain ⟨l1, el1, hl1⟩ := first_w hws hl0
        obtain ⟨L1, eL1, hL1⟩ := first_s hqs hL0
        refine dss_cons (ds_set 5 sc.nd rfl (.inl rfl) ?_)
        refine de_ix ?_
        refine de_more ?_
        refine de_dget hu ?_
        refine de_var 2 rfl (.inl rfl) rfl ?_
        refine de_str ?_
        refine ⟨dl, _, _, rfl, rfl, ew, ?_⟩
        refine ⟨_, rfl, by rw [List.length_map]; omega, ?_⟩
        refine de_var 5 rfl (.inl rfl) rfl ?_
        refine de_int ?_
        refine ⟨_, _, _, .inl rfl, rfl, atI_nat (by omega) el1, ?_⟩
        refine dss_cons (ds_set 6 sc.nd rfl (.inl rfl) ?_)
        refine de_ix ?_
        refine de_more ?_
        refine de_dget hu ?_
        refine de_var 2 rfl (.inl rfl) rfl ?_
        refine de_str ?_
        refine ⟨dl, _, _, rfl, rfl, eq, ?_⟩
        refine ⟨_, rfl, by rw [List.length_map]; omega, ?_⟩
        refine de_var 6 rfl (.inl rfl) rfl ?_
        refine de_int ?_
        refine ⟨_, _, _, .inl rfl, rfl, atI_nat (by omega) eL1, ?_⟩
        exact dss_nil ⟨l1, L1, hl1, hL1, rfl⟩
    · subst e
      obtain ⟨x, hx, ask, spl⟩ := pap_f (P := P) (w := w) T hp h1 h12 hl
      obtain ⟨y, hy, ask2, spl2⟩ := pap_g (P := P) (w := w) T hp h1 h12 hL
      have wx : wtD (.int x) ≤ sizeLine := by have := (fl_bit hx).wt; omega
      have wy : wtD (.int y) ≤ sizeLine := by have := (fl_bit hy).wt; omega
      refine dss_cons (ds_if (DT.imp (Φ := fun b => b = false) ?t1 fun b hb => ⟨fun h => (by rw [hb] at h; cases h), fun _ => dss_nil ?g1⟩))
      case g1 =>
        refine dss_one (ds_if (DT.imp (Φ := fun b => b = false) ?t2 fun b hb => ⟨fun h => (by rw [hb] at h; cases h), fun _ => dss_nil ?g2⟩))
        case g2 => exact ⟨_, _, _, rfl, fun _ => ⟨l, L, hl, hL, rfl, rfl⟩⟩
        case t2 =>
          refine dt_cmpO op_ne rfl ?_
          refine de_repr (guards_deeper hgd) hr.units rfl (b_repr T) ?_
          refine de_ask (hr.mono (by decide)) (ask2 _ ⟨0, (fl_bit hy).ok, by omega, (fl_bit hy).sh, wy, ?_⟩) (fun Ψ h => de_var 1 rfl (.inl rfl) rfl h) (fun Ψ h => de_var 6 rfl (.inl rfl) rfl h)
          refine de_repr (guards_deeper hgd) hr.units rfl (b_repr T) ?_
          refine de_call (ok__law_letter T) (hr.mono (by decide)) rfl ?_
          refine da_cons ?_
          refine de_var 2 rfl (.inl rfl) rfl ?_
          refine da_cons ?_
          refine de_tup ?_
          refine da_cons ?_
          refine de_str ?_
          refine da_cons ?_
          refine de_var 6 rfl (.inl rfl) rfl ?_
          refine da_nil ⟨by walk_at "len", ?_⟩
          refine da_nil (spl2 _ ⟨0, (fl_bit hy).ok, by omega, (fl_bit hy).sh, wy, ?_⟩)
          exact od_neS (isBl_of (by rw [decide_eq_true rfl] <;> rfl))
      case t1 =>
        refine dt_cmpO op_ne rfl ?_
        refine de_repr (guards_deeper hgd) hr.units rfl (b_repr T) ?_
        refine de_ask (hr.mono (by decide)) (ask _ ⟨0, (fl_bit hx).ok, by omega, (fl_bit hx).sh, wx, ?_⟩) (fun Ψ h => de_var 1 rfl (.inl rfl) rfl h) (fun Ψ h => de_var 5 rfl (.inl rfl) rfl h)
        refine de_repr (guards_deeper hgd) hr.units rfl (b_repr T) ?_
        refine de_call (ok__law_letter T) (hr.mono (by decide)) rfl ?_
        refine da_cons ?_
        refine de_var 2 rfl (.inl rfl) rfl ?_
        refine da_cons ?_
        refine de_tup ?_
        refine da_cons ?_
        refine de_str ?_
        refine da_cons ?_
        refine de_var 5 rfl (.inl rfl) rfl ?_
        refine da_nil ⟨by walk_at "len", ?_⟩
        refine da_nil (spl _ ⟨0, (fl_bit hx).ok, by omega, (fl_bit hx).sh, wx, ?_⟩)
        exact od_neS (isBl_of (by rw [decide_eq_true rfl] <;> rfl))
  · obtain ⟨l, L, hl, hL, e5, e6⟩ := hw (by omega)
    subst e5 e6
    subst e
    have ll : (l.map D.int).length = n := by rw [List.length_map, hl.len]
    have lL : (L.map wd).length = n := by rw [List.length_map, hL.len]
    obtain ⟨r, er⟩ : ∃ r, L.getLast? = some r := by
      cases q : L.getLast? with
      | some r => exact ⟨r, rfl⟩
      | none =>
        have z := hL.len
        rw [List.getLast?_eq_none_iff.mp q] at z
        exact absurd z (by show ¬ 0 = n; omega)
    have wr : WdI n r := hL.rows r (List.mem_of_getLast? er)
    -- what is no word
    refine dss_cons (ds_set 7 sc.nd rfl (.inl rfl) ?_)
    refine de_call (ok__law_pick T) (hr.mono (by decide)) rfl ?_
    refine da_cons ?_
    refine de_var 0 rfl (.inl rfl) rfl ?_
    refine da_cons ?_
    refine de_lst ?_
    refine da_cons ?_
    refine de_more ?_
    refine de_var 5 rfl (.inl rfl) rfl ⟨_, rfl, by omega, ?_⟩
    refine de_int ?_
    refine da_cons ?_
    refine de_init ?_
    refine de_var 5 rfl (.inl rfl) rfl ⟨_, rfl, ?_⟩
    refine da_cons ?_
    refine de_toL rfl (b_list T) ?_
    refine de_var 5 rfl (.inl rfl) rfl ⟨_, rfl, ?_⟩
    refine da_cons ?_
    refine de_non ?_
    refine da_cons ?_
    refine de_int ?_
    refine da_cons ?_
    refine de_more ?_
    refine de_init ?_
    refine de_var 5 rfl (.inl rfl) rfl ⟨_, rfl, _, rfl, by rw [List.length_dropLast]; omega, ?_⟩
    refine de_int ?_
    refine da_cons ?_
    refine de_more ?_
    refine de_init ?_
    refine de_var 5 rfl (.inl rfl) rfl ⟨_, rfl, _, rfl, by rw [List.length_dropLast]; omega, ?_⟩
    refine de_bl ?_
    refine da_cons ?_
    refine de_str ?_
    refine da_nil ⟨by walk_at "len", ?_⟩
    refine da_nil ⟨_, rfl, by simp, fun bad hbad => ?_⟩
    rw [← List.map_dropLast] at hbad
    have nb : NoW n bad := all_c (now_more hl h12 (fl_bit (.inr rfl))) (all_c (now_init hl h1 h12) (all_c (now_lst hl h12) (all_c (now_bits fl_non.sm rfl) (all_c (now_bits fl_5.sm rfl) (all_c (now_end hl h12 fl_2 rfl) (all_c (now_end hl h12 (fl_bl true) rfl) (all_c (now_bits fl_0.sm rfl) all_n))))))) bad hbad
    clear hbad
    -- what is no square
    refine dss_cons (ds_set 8 sc.nd rfl (.inl rfl) ?_)
    refine de_call (ok__law_pick T) (hr.mono (by decide)) rfl ?_
    refine da_cons ?_
    refine de_var 0 rfl (.inl rfl) rfl ?_
    refine da_cons ?_
    refine de_op op_addU ?_
    refine de_lst ?_
    refine da_cons ?_
    refine de_more ?_
    refine de_var 6 rfl (.inl rfl) rfl ⟨_, rfl, by omega, ?_⟩
    refine de_var 5 rfl (.inl rfl) rfl ?_
    refine da_cons ?_
    refine de_init ?_
    refine de_var 6 rfl (.inl rfl) rfl ⟨_, rfl, ?_⟩
    refine da_cons ?_
    refine de_toL rfl (b_list T) ?_
    refine de_var 6 rfl (.inl rfl) rfl ⟨_, rfl, ?_⟩
    refine da_cons ?_
    refine de_non ?_
    refine da_cons ?_
    refine de_var 5 rfl (.inl rfl) rfl ?_
    refine da_cons ?_
    refine de_int ?_
    refine da_nil ⟨by walk_at "len", ?_⟩
    refine de_call (ok__law_bad_rows T) (hr.mono (by decide)) rfl ?_
    refine da_cons ?_
    refine de_var 6 rfl (.inl rfl) rfl ?_
    refine da_nil ⟨L, r, rfl, er, by rw [hL.len]; omega, by rw [wr.len]; omega, ?_⟩
    refine od_addL (by rw [show (badSq L r).length = 6 from rfl]; show 6 + 6 ≤ sizeLine; omega) ?_
    refine da_nil ⟨_, rfl, by simp, fun oth hoth => ?_⟩
    rw [← List.map_dropLast] at hoth
    have rl : ∀ d ∈ L.map wd, Rw d := rw_wds hL.rows (by omega)
    have rd : ∀ d ∈ L.dropLast.map wd, Rw d := rw_wds (fun r hr => hL.rows r ((List.dropLast_sublist _).subset hr)) (by omega)
    have s1 : NoS n (.tup (L.map wd ++ [wd l])) := nos_len (sm_tup (rw_more rl (rw_wd hl.bits (by rw [hl.len]; omega))) (by rw [List.length_append, lL, List.length_singleton]; omega)) (by
      show ((((L.map wd ++ [wd l]).length : Nat) : Int)) ≠ n
      rw [List.length_append, lL, List.length_singleton]
      omega)
    have s2 : NoS n (.tup (L.dropLast.map wd)) := nos_len (sm_tup rd (by rw [List.length_map, List.length_dropLast, hL.len]; omega)) (by
      show ((((L.dropLast.map wd).length : Nat) : Int)) ≠ n
      rw [List.length_map, List.length_dropLast, hL.len]
      omega)
    have s3 : NoS n (.lst (L.map wd)) := nos_tup (sm_lst rl (by rw [lL]; omega)) rfl
    have nb2 : NoS n oth := all_a (all_c s1 (all_c s2 (all_c s3 (all_c (nos_tup fl_non.sm rfl) (all_c (nos_wd hl h1 h12) (all_c (nos_tup fl_7.sm rfl) all_n)))))) (nos_bad hL er h1 h12) oth hoth
    clear hoth s1 s2 s3
    refine dss_one (ds_ret ?_)
    refine de_cmpO op_eq rfl ?_
    refine de_callG (ok__law_no_letter T) hr (guards_deeper hgd) rfl ?_
    refine da_cons ?_
    refine de_var 1 rfl (.inl rfl) rfl ?_
    refine da_cons ?_
    refine de_var 7 rfl (.inl rfl) rfl ?_
    refine da_cons ?_
    refine de_var 8 rfl (.inl rfl) rfl ?_
    have wa := nb.sm.wt
    have wb := nb2.sm.wt
    refine da_nil ⟨n, po, _, bad, oth, rfl, hp, h1, h12, nb.sm.ok9, nb2.sm.ok9, nb.no, nb2.no, nb.sm.sh, nb2.sm.sh, by omega, ?_⟩
    refine de_repr (guards_deeper hgd) hr.units rfl (b_repr T) ?_
    refine de_lst ?_
    refine da_cons ?_
    refine de_var 7 rfl (.inl rfl) rfl ?_
    refine da_cons ?_
    refine de_var 8 rfl (.inl rfl) rfl ?_
    refine da_nil ⟨by walk_at "len", 9, ?_, by omega, ?_, ?_, ?_⟩
    · rw [ok_lst]
      exact okL_iff.mpr (all_c nb.sm.ok (all_c nb2.sm.ok all_n))
    · show shL [bad, oth] = true
      exact shL_of (all_c nb.sm.sh (all_c nb2.sm.sh all_n))
    · rw [wtD, wtL, wtL, wtL]
      omega
    · refine od_eqS ?_
      rw [decide_eq_true rfl]
      exact hΦ
end
end Fr
end
-- FrL11
section
set_option Elab.async false
set_option linter.all false
set_option maxRecDepth 100000
/-! A bit turned; what TablePaper refuses. -/
namespace Fr
open PySem PySem.Spec PyProof.Rows L2
/-! ### a bit turned -/
def flipI (l : List Int) (j : Nat) : List Int := l.take j ++ [1 - (l[j]?).getD 0] ++ l.drop (j + 1)
theorem flip_len {l : List Int} {j : Nat} (h : j < l.length) : (flipI l j).length = l.length := by
  unfold flipI
  rw [List.length_append, List.length_append, List.length_take, List.length_drop, List.length_singleton]
  omega
theorem flip_bits {l : List Int} {j : Nat} (hl : bitsI l) (h : j < l.length) : bitsI (flipI l j) := fun x hx => by
  unfold flipI at hx
  rcases List.mem_append.mp hx with hx | hx
  · rcases List.mem_append.mp hx with hx | hx
    · exact hl x (List.mem_of_mem_take hx)
    · rw [List.mem_singleton.mp hx, List.getElem?_eq_getElem h]
      have := hl l[j] (List.getElem_mem h)
      show (1 - l[j] = 0 ∨ 1 - l[j] = 1)
      omega
  · exact hl x (List.mem_of_mem_drop hx)
theorem flip_ne {l : List Int} {j : Nat} (h : j < l.length) : flipI l j ≠ l := fun e => by
  have q : (flipI l j)[j]? = l[j]? := by rw [e]
  unfold flipI at q
  rw [List.append_assoc, List.getElem?_append_right (by rw [List.length_take]; omega), List.length_take, Nat.min_eq_left (by omega), Nat.sub_self, List.getElem?_eq_getElem h] at q
  simp only [List.singleton_append, List.getElem?_cons_zero, Option.some.injEq, Option.getD_some] at q
  omega
theorem flipW {n : Nat} {l : List Int} {j : Nat} (hl : WdI n l) (h : j < n) : WdI n (flipI l j) := ⟨by rw [flip_len (by rw [hl.len]; exact h), hl.len], flip_bits hl.bits (by rw [hl.len]; exact h)⟩
section
variable {X : Cx} {δ : List Sl} {Φ : D → Prop} {a1 a2 a3 b1 b2 b3 : Expr} {p1 p2 p3 p4 p5 p6 p7 p8 p9 p10 p11 pos : Pos} {j1 j2 j3 : Nat}
/-- x[:y] + (1 - x[y],) + x[y + 1:] -/
theorem de_flip {l : List Int} {j : Nat} (hj : j < l.length) (hz : l.length ≤ 10000) (xa : ∀ (e : Expr), e = a1 ∨ e = a2 ∨ e = a3 → ∀ Ψ : D → Prop, Ψ (wd l) → DE X e δ Ψ) (yb : ∀ (e : Expr), e = b1 ∨ e = b2 ∨ e = b3 → ∀ Ψ : D → Prop, Ψ (.int j) → DE X e δ Ψ) (h : Φ (wd (flipI l j)))
    (hs : PlainIx b2 := by exact fun _ _ => rfl)
    (hst : starEach [.BinOp (.Constant (.int 1) j1 p1) .Sub (.Subscript a2 b2 p2) p3] X.env = (false, eval (.BinOp (.Constant (.int 1) j1 p1) .Sub (.Subscript a2 b2 p2) p3) X.env) :: starEach [] X.env := by rfl) :
    DE X (.BinOp (.BinOp (.Subscript a1 (.Slice none (some b1) none p4) p5) .Add (.Tuple [.BinOp (.Constant (.int 1) j1 p1) .Sub (.Subscript a2 b2 p2) p3] j2 p6) p7) .Add (.Subscript a3 (.Slice (some (.BinOp b3 .Add (.Constant (.int 1) j3 p8) p9)) none none p10) p11) pos) δ Φ := by
  have big : (30000 : Nat) ≤ sizeLine := by decide
  refine de_op op_addU ?_
  refine de_more ?_ hst
  refine de_sl ?_
  refine xa _ (.inl rfl) _ ?_
  refine do_none ?_
  refine do_some ?_
  refine yb _ (.inl rfl) _ ?_
  refine ⟨_, rfl, ?_⟩
  refine .inl ⟨_, rfl, ?_⟩
  rw [cutL_to (by omega), Int.toNat_natCast]
  refine ⟨_, rfl, by rw [List.length_take, List.length_map]; omega, ?_⟩
  refine de_op op_sub ?_
  refine de_int ?_
  refine de_ix ?_ hs
  refine xa _ (.inr (.inl rfl)) _ ?_
  refine yb _ (.inr (.inl rfl)) _ ?_
  refine ⟨_, _, .int l[j], .inl rfl, rfl, atI_nat (by omega) (by rw [Int.toNat_natCast, List.getElem?_map, List.getElem?_eq_getElem hj]; rfl), ?_⟩
  refine od_subI ?_
  refine de_sl ?_
  refine xa _ (.inr (.inr rfl)) _ ?_
  refine do_some ?_
  refine de_op op_addU ?_
  refine yb _ (.inr (.inr rfl)) _ ?_
  refine de_int ?_
  refine od_addI ?_
  refine ⟨_, rfl, ?_⟩
  refine do_none ?_
  refine .inl ⟨_, rfl, ?_⟩
  rw [cutL_from (by omega), show ((j : Int) + 1).toNat = j + 1 by omega]
  refine od_addT (by rw [List.length_append, List.length_take, List.length_map, List.length_singleton, List.length_drop, List.length_map]; omega) ?_
  have e : ((l.map D.int).take j ++ [D.int (1 - l[j])] ++ (l.map D.int).drop (j + 1)) = (flipI l j).map D.int := by
    unfold flipI
    rw [List.map_append, List.map_append, List.map_take, List.map_drop, List.getElem?_eq_getElem hj]
    rfl
  rw [e]
  exact h
end
/-! ### what TablePaper refuses -/
theorem areB_wd {k : Nat} {l : List Int} (h : WdI k l) {m : Int} (hm : m = k) : areB (wd l) m = true := by
  unfold areB
  rw [bits_isBits h.bits, lenD_wd, h.len, hm, beq_self_eq_true]
  rfl
theorem pow_cast (n : Nat) : (2 : Int) ^ (n : Int).toNat = ((2 ^ n : Nat) : Int) := by
  rw [Int.toNat_natCast]
  norm_cast
theorem pow_cast2 (n : Nat) : (2 : Int) ^ ((n : Int) * n).toNat = ((2 ^ (n * n) : Nat) : Int) := by
  rw [← Int.natCast_mul]
  exact pow_cast _
theorem btw_in {n : Nat} (h1 : 1 ≤ n) (h3 : n ≤ 3) : btw 1 3 (.int n) = true := by
  show (decide ((1 : Int) ≤ n) && decide ((n : Int) ≤ 3)) = true
  rw [decide_eq_true (by omega), decide_eq_true (by omega)]
  rfl
theorem tab_none {n : Nat} {f g : List Int} (h1 : 1 ≤ n) (h3 : n ≤ 3) (hf : WdI (2 ^ n) f) (hg : WdI (2 ^ (n * n)) g) : tabFault (.int n) (wd f) (wd g) = none := by
  unfold tabFault
  show (if btw 1 3 (.int n) = true then _ else _) = _
  rw [if_pos (btw_in h1 h3), if_pos (areB_wd hf (pow_cast n)), if_pos (areB_wd hg (pow_cast2 n))]
theorem tab_size {i : Int} (h : ¬(1 ≤ i ∧ i ≤ 3)) (f g : D) : tabFault (.int i) f g = some ("size" : Str) := by
  unfold tabFault
  show (if btw 1 3 (.int i) = true then _ else _) = _
  rw [if_neg]
  intro z
  have z : (decide (1 ≤ i) && decide (i ≤ 3)) = true := z
  rw [Bool.and_eq_true, decide_eq_true_iff, decide_eq_true_iff] at z
  exact h z
theorem tab_f {n : Nat} {f g : D} (h1 : 1 ≤ n) (h3 : n ≤ 3) (hf : areB f ((2 ^ n : Nat) : Int) = false) : tabFault (.int n) f g = some ("f" : Str) := by
  unfold tabFault
  show (if btw 1 3 (.int n) = true then _ else _) = _
  rw [if_pos (btw_in h1 h3), pow_cast n, if_neg (by rw [hf]; exact Bool.false_ne_true)]
theorem tab_g {n : Nat} {f : List Int} {g : D} (h1 : 1 ≤ n) (h3 : n ≤ 3) (hf : WdI (2 ^ n) f) (hg : areB g ((2 ^ (n * n) : Nat) : Int) = false) : tabFault (.int n) (wd f) g = some ("g" : Str) := by
  unfold tabFault
  show (if btw 1 3 (.int n) = true then _ else _) = _
  rw [if_pos (btw_in h1 h3), if_pos (areB_wd hf (pow_cast n)), pow_cast2 n, if_neg (by rw [hg]; exact Bool.false_ne_true)]
/-- no k bits -/
structure NoB (k : Nat) (d : D) : Prop where
  ok : d.ok 9 = true
  no : areB d (k : Int) = false
theorem nob_len {k : Nat} {d : D} (s : d.ok 9 = true) (h : lenD d ≠ k) : NoB k d := ⟨s, by
  unfold areB
  rw [beq_eq_false_iff_ne.mpr h, Bool.false_and, Bool.and_false]⟩
theorem nob_bits {k : Nat} {d : D} (s : d.ok 9 = true) (h : isBits d = false) : NoB k d := ⟨s, by
  unfold areB
  rw [h, Bool.and_false, Bool.and_false]⟩
theorem ok_fl {l : List D} (h : ∀ d ∈ l, Fl d) : (D.tup l).ok 9 = true := by
  rw [ok_tup]
  exact okL_iff.mpr fun d hd => D.ok_mono (h d hd).ok (by omega)
theorem nob_more {k : Nat} {l : List Int} (hl : WdI k l) {x : D} (hx : Fl x) : NoB k (.tup (l.map D.int ++ [x])) := nob_len (ok_fl (fl_more (fl_ints hl.bits) hx)) (by
  show ((((l.map D.int ++ [x]).length : Nat) : Int)) ≠ k
  rw [List.length_append, List.length_map, hl.len, List.length_singleton]
  omega)
theorem nob_init {k : Nat} {l : List Int} (hl : WdI k l) (h1 : 1 ≤ k) : NoB k (.tup (l.dropLast.map D.int)) := nob_len (ok_fl (fl_ints (bits_init hl.bits))) (by
  show ((((l.dropLast.map D.int).length : Nat) : Int)) ≠ k
  rw [List.length_map, List.length_dropLast, hl.len]
  omega)
theorem nob_lst {k : Nat} {l : List Int} (hl : WdI k l) : NoB k (.lst (l.map D.int)) := nob_bits (by
  rw [ok_lst]
  exact okL_iff.mpr fun d hd => D.ok_mono (fl_ints hl.bits d hd).ok (by omega)) rfl
theorem nob_end {k : Nat} {l : List Int} (hl : WdI k l) {x : D} (hx : Fl x) (nb : isBit x = false) : NoB k (.tup (l.dropLast.map D.int ++ [x])) := nob_bits (ok_fl (fl_more (fl_ints (bits_init hl.bits)) hx)) (bits_more nb)
theorem nob_fl {k : Nat} {d : D} (h : Fl d) (n : isBits d = false) : NoB k d := nob_bits (D.ok_mono h.ok (by omega)) n
theorem nob_nil {k : Nat} (h1 : 1 ≤ k) : NoB k (.tup []) := nob_len (ok_fl all_n) (by show (((0 : Nat) : Int)) ≠ k; omega)
/-! ### told -/
theorem eqv_told (p : Str) (k : Int) : D.eqv (.tup [.str p, .int k]) (.tup [.str p, .int k]) = true := by
  rw [eqv_tt, eqvA_cons, eqvA_cons, eqvA_nil, eqv_ss, eqv_ii, beq_self_eq_true, beq_self_eq_true]
  rfl
theorem ok_told {p : Str} (h : PyData.strOk p = true) (k : Int) : (D.tup [.str p, .int k]).ok 1 = true := by
  rw [ok_tup]
  exact okL_iff.mpr (all_c (by rw [D.ok]; exact h) (all_c (by rw [D.ok]) all_n))
section
variable {X : Cx} {δ : List Sl} {Φ : D → Prop} {Φb : Bool → Prop} {a b : Expr} {pos p1 p2 p3 : Pos} {j1 j2 j3 : Nat}
/-- told != (p, k), as a test -/
theorem dt_told {p : Str} {k : Int} {c : Expr} (hu : X.A.units + 64 < cLine) (hp : PyData.strOk p = true) (h : DE X a δ fun d => d = .tup [.str p, .int k] ∧ DE X c δ fun z => z = .int k ∧ Φb false) (hs : starEach [.Constant (.str p) j1 p1, c] X.env = (false, eval (.Constant (.str p) j1 p1) X.env) :: starEach [c] X.env := by rfl) (hs2 : starEach [c] X.env = (false, eval c X.env) :: starEach [] X.env := by rfl) :
    DT X (.Compare a [.NotEq] [.Tuple [.Constant (.str p) j1 p1, c] j2 p2] pos) δ Φb := by
  refine dt_cmpO (op_neD hu) rfl (h.imp fun d ⟨ed, q⟩ => ?_)
  subst ed
  refine de_tup (da_cons (de_str (da_cons (q.imp fun z ⟨ez, r⟩ => da_nil ⟨by show 2 ≤ sizeLine; decide, ?_⟩) hs2)) hs)
  subst ez
  refine od_ne 1 1 (ok_told hp k) (ok_told hp k) (by omega) (isBl_of ?_)
  rw [eqv_told]
  exact r
/-- told == (p, k) -/
theorem de_told {p : Str} {k : Int} {c : Expr} (hu : X.A.units + 64 < cLine) (hp : PyData.strOk p = true) (h : DE X a δ fun d => d = .tup [.str p, .int k] ∧ DE X c δ fun z => z = .int k ∧ Φ (.bl true)) (hs : starEach [.Constant (.str p) j1 p1, c] X.env = (false, eval (.Constant (.str p) j1 p1) X.env) :: starEach [c] X.env := by rfl) (hs2 : starEach [c] X.env = (false, eval c X.env) :: starEach [] X.env := by rfl) :
    DE X (.Compare a [.Eq] [.Tuple [.Constant (.str p) j1 p1, c] j2 p2] pos) δ Φ := by
  refine de_cmpO (op_eqD hu) rfl (h.imp fun d ⟨ed, q⟩ => ?_)
  subst ed
  refine de_tup (da_cons (de_str (da_cons (q.imp fun z ⟨ez, r⟩ => da_nil ⟨by show 2 ≤ sizeLine; decide, ?_⟩) hs2)) hs)
  subst ez
  refine od_eq 1 1 (ok_told hp k) (ok_told hp k) (by omega) ?_
  rw [eqv_told]
  exact r
end
end Fr
end
-- FrL12
section
set_option Elab.async false
set_option linter.all false
set_option maxRecDepth 100000
/-! The walks: papers by tables. -/
namespace Fr
open PySem PySem.Spec PyProof.Rows L2
-- macros
local macro_rules | `(tactic| walk_at "side") => `(tactic| first | assumption | omega | rfl | decide)
local macro_rules | `(tactic| walk_at "cm") => `(tactic| first | exact .inl ⟨by omega, by omega⟩ | exact .inr ⟨by omega, by omega⟩)
local macro_rules | `(tactic| walk_at "len") => `(tactic| first | decide | (show _ ≤ sizeLine; simp only [List.length_cons, List.length_nil]; decide))
local macro_rules | `(tactic| walk_at "add") => `(tactic| first | refine od_addI ?_ | refine od_addT (by walk_at "side") ?_ | refine od_addL (by walk_at "side") ?_)
local macro_rules | `(tactic| walk_at "mul") => `(tactic| first | refine od_mulI (by walk_at "cm") ?_ | refine od_mulT (by walk_at "side") (by walk_at "side") (by walk_at "side") ?_)
local macro_rules | `(tactic| walk_at "ok") => `(tactic| first | assumption | (simp only [D.ok, okL, Bool.and_true, Bool.true_and]; first | done | assumption | decide))
local macro_rules | `(tactic| walk_at "eq") => `(tactic| first | refine od_eqII ?_ | refine od_eq 20 20 (by walk_at "ok") (by walk_at "ok") (by omega) ?_)
local macro_rules | `(tactic| walk_at "ne") => `(tactic| first | refine od_neII ?_ | refine od_ne 20 20 (by walk_at "ok") (by walk_at "ok") (by omega) ?_)
local macro_rules | `(tactic| walk_at "slice") => `(tactic| first | refine .inl ⟨_, rfl, ?_⟩ | refine .inr ⟨_, rfl, ?_⟩)
local macro_rules | `(tactic| walk_at "vis") => `(tactic| first | exact .inl rfl | exact .inr (.inl rfl) | exact .inr (.inr rfl))
local macro_rules | `(tactic| walk_at "loc") => `(tactic| first | exact .inl rfl | exact .inr rfl)
local macro_rules | `(tactic| walk_at "locf") => `(tactic| first | exact .inr rfl | exact .inl rfl)
-- end macros
theorem fl_n {n : Nat} (h : n ≤ 12) : Fl (.int n) := by
  have : n = 0 ∨ n = 1 ∨ n = 2 ∨ n = 3 ∨ n = 4 ∨ n = 5 ∨ n = 6 ∨ n = 7 ∨ n = 8 ∨ n = 9 ∨ n = 10 ∨ n = 11 ∨ n = 12 := by omega
  rcases this with rfl | rfl | rfl | rfl | rfl | rfl | rfl | rfl | rfl | rfl | rfl | rfl | rfl <;> exact ⟨by decide +kernel, by decide +kernel, by decide +kernel⟩
/-- data that repr can show -/
structure Sh (k m : Nat) (d : D) : Prop where
  ok : d.ok k = true
  sh : d.sh = true
  wt : wtD d ≤ m
theorem Fl.s {d : D} (h : Fl d) : Sh 0 8 d := ⟨h.ok, h.sh, h.wt⟩
theorem Sh.up {k m k' m' : Nat} {d : D} (h : Sh k m d) (hk : k ≤ k') (hm : m ≤ m') : Sh k' m' d := ⟨D.ok_mono h.ok hk, h.sh, Nat.le_trans h.wt hm⟩
theorem sh_tup {k m : Nat} {l : List D} (h : ∀ d ∈ l, Sh k m d) (c : Nat) (hc : l.length * (m + 2) + 3 ≤ c) : Sh (k + 1) c (.tup l) := by
  refine ⟨by rw [ok_tup]; exact okL_iff.mpr fun d hd => (h d hd).ok, ?_, ?_⟩
  · show shL l = true
    exact shL_of fun d hd => (h d hd).sh
  · show wtL l + 3 ≤ c
    have := wtL_le (k := m) fun d hd => (h d hd).wt
    omega
theorem sh_wd {k : Nat} {l : List Int} (h : bitsI l) (hl : l.length ≤ k) : Sh 1 (k * 10 + 3) (wd l) := sh_tup (k := 0) (m := 8) (fun d hd => (fl_ints h d hd).s) _ (by rw [List.length_map]; omega)
section
variable {P : Program} {w : World} {K : PySem.W.Frag} {mg : Str → Option Value} {base : Heap}
abbrev Ntr : List Str := ["_law_tape_here", "_law_n", "_law_paper", "_law_f", "_law_g", "_law_made_here", "_law_at", "_law_spot", "_law_near", "_law_other", "_law_size", "_law_bad"]
def sp__law_table_right : DSp := fun ds Φ _ => ds = [.tape] ∧ Φ (.bl true)
theorem sc__law_table_right : FnScope Ntr ["_law_tape_here"] (defScope s_Ltable_right) := ⟨rfl, rfl, rfl, by decide +kernel, rfl, by decide +kernel, by decide +kernel⟩
theorem ok__law_table_right (T : Tx K mg base) : CalG P w K mg base 17 "_law_table_right" sp__law_table_right := by
  refine calG_of T 46 rfl rfl sc__law_table_right (fun _ _ _ _ _ _ us hl => match us, hl with | [_], _ => rfl) (fun ds Φ Ψ ⟨h, _⟩ => by rw [h] <;> rfl) fun cdv A outer s H E hcd hgd hr ds Φ Ψ h => ?_
  have sc := sc__law_table_right
  have hu := u1_of hr
  have big := sizeBig
  obtain ⟨rfl, hΦ⟩ := h
  -- n
  refine dss_cons (ds_set 1 sc.nd rfl (.inl rfl) ?_)
  refine de_op op_addU ?_
  refine de_op op_addU ?_
  refine de_int ?_
  refine de_call (ok__law_draw T) (hr.mono (by decide)) rfl ?_
  refine da_cons ?_
  refine de_var 0 rfl (.inl rfl) rfl ?_
  refine da_cons ?_
  refine de_int ?_
  refine da_nil ⟨2, rfl, by omega, fun i i0 i2 => ?_⟩
  refine od_addI ?_
  refine de_callTy call_int1 rfl (b_int T) (by decide +kernel) ?_
  refine da_cons ?_
  refine de_cmpO (op_eqD hr.units) rfl ?_
  refine de_call (ok__law_draw T) (hr.mono (by decide)) rfl ?_
  refine da_cons ?_
  refine de_var 0 rfl (.inl rfl) rfl ?_
  refine da_cons ?_
  refine de_int ?_
  refine da_nil ⟨5, rfl, by omega, fun i5 _ _ => ?_⟩
  refine de_int ?_
  refine od_eqII ?_
  refine da_nil ?_
  refine cd_intB ?_
  refine od_addI ?_
  obtain ⟨n, en, h1, h3⟩ : ∃ n : Nat, (1 + i + if (i5 == 0) = true then 1 else 0) = (n : Int) ∧ 1 ≤ n ∧ n ≤ 3 := by
    split
    · exact ⟨(1 + i + 1).toNat, by omega, by omega, by omega⟩
    · exact ⟨(1 + i + 0).toNat, by omega, by omega, by omega⟩
  rw [en]
  have p1 : 2 ≤ 2 ^ n ∧ 2 ^ n ≤ 8 := by
    have : n = 1 ∨ n = 2 ∨ n = 3 := by omega
    rcases this with rfl | rfl | rfl <;> decide
  have p2 : 2 ≤ 2 ^ (n * n) ∧ 2 ^ (n * n) ≤ 512 := by
    have : n = 1 ∨ n = 2 ∨ n = 3 := by omega
    rcases this with rfl | rfl | rfl <;> decide
  have p3 : 2 ^ n + 7 ≠ 2 ^ (n * n) := by
    have : n = 1 ∨ n = 2 ∨ n = 3 := by omega
    rcases this with rfl | rfl | rfl <;> decide
  -- the paper
  refine dss_cons (ds_set 2 sc.nd rfl (.inl rfl) ?_)
  refine de_call (ok__law_table_paper T) (hr.mono (by decide)) rfl ?_
  refine da_cons ?_
  refine de_var 0 rfl (.inl rfl) rfl ?_
  refine da_cons ?_
  refine de_var 1 rfl (.inl rfl) rfl ?_
  refine da_nil ⟨n, rfl, h1, h3, fun f g hf hg => ?_⟩
  have oki : (D.int n).ok 9 = true := by rw [D.ok]
  have okf := ok_wd f 8
  have okg := ok_wd g 8
  have lf : (f.map D.int).length = 2 ^ n := by rw [List.length_map, hf.len]
  have lg : (g.map D.int).length = 2 ^ (n * n) := by rw [List.length_map, hg.len]
  have hno := tab_none h1 h3 hf hg
  refine dss_cons (ds_set 3 sc.nd rfl (.inl rfl) ?_)
  refine de_dget hu ?_
  refine de_var 2 rfl (.inl rfl) rfl ?_
  refine de_str ?_
  refine ⟨_, _, wd f, rfl, rfl, rfl, ?_⟩
  refine dss_cons (ds_set 4 sc.nd rfl (.inl rfl) ?_)
  refine de_dget hu ?_
  refine de_var 2 rfl (.inl rfl) rfl ?_
  refine de_str ?_
  refine ⟨_, _, wd g, rfl, rfl, rfl, ?_⟩
  refine dss_cons (ds_set 5 sc.nd rfl (.inl rfl) ?_)
  refine de_makeD (mkd_T T) (hr.mono (by decide)) rfl ?_
  refine da_cons ?_
  refine de_var 1 rfl (.inl rfl) rfl ?_
  refine da_cons ?_
  refine de_var 3 rfl (.inl rfl) rfl ?_
  refine da_cons ?_
  refine de_var 4 rfl (.inl rfl) rfl ?_
  refine da_nil ⟨_, _, _, rfl, oki, okf, okg, fun p hp => (by rw [hno] at hp; cases hp), fun _ => ?_⟩
  -- attributes, letters
  refine dss_cons (ds_if (DT.imp (Φ := fun b => b = false) ?t1 fun b hb => ⟨fun h => (by rw [hb] at h; cases h), fun _ => dss_nil ?g1⟩))
  case t1 =>
    have shw : Sh 2 20000 (.tup [.int n, wd f, wd g]) := sh_tup (k := 1) (m := 6000) (all_c ((fl_n (by omega)).s.up (by omega) (by omega)) (all_c ((sh_wd (k := 8) hf.bits (by rw [hf.len]; omega)).up (by omega) (by omega)) (all_c ((sh_wd (k := 512) hg.bits (by rw [hg.len]; omega)).up (by omega) (by omega)) all_n))) 20000 (by show 3 * (6000 + 2) + 3 ≤ 20000; decide)
    have wb : wtD (.tup [.int n, wd f, wd g]) ≤ sizeLine := by have := shw.wt; omega
    refine dt_W ?_
    refine dw_or ?_
    refine dt_cmpO op_ne rfl ?_
    refine de_repr (guards_deeper hgd) hr.units rfl (b_repr T) ?_
    refine de_tup ?_
    refine da_cons ?_
    refine de_fld (T.cls) ?_
    refine de_var 5 rfl (.inl rfl) rfl ?_
    refine ⟨0, _, .int n, rfl, no_n0 T, rfl, ?_⟩
    refine da_cons ?_
    refine de_fld (T.cls) ?_
    refine de_var 5 rfl (.inl rfl) rfl ?_
    refine ⟨0, _, wd f, rfl, no_f T, rfl, ?_⟩
    refine da_cons ?_
    refine de_fld (T.cls) ?_
    refine de_var 5 rfl (.inl rfl) rfl ?_
    refine ⟨0, _, wd g, rfl, no_g T, rfl, ?_⟩
    refine da_nil ⟨by walk_at "len", 2, shw.ok, by omega, shw.sh, wb, ?_⟩
    refine de_repr (guards_deeper hgd) hr.units rfl (b_repr T) ?_
    refine de_tup ?_
    refine da_cons ?_
    refine de_var 1 rfl (.inl rfl) rfl ?_
    refine da_cons ?_
    refine de_var 3 rfl (.inl rfl) rfl ?_
    refine da_cons ?_
    refine de_var 4 rfl (.inl rfl) rfl ?_
    refine da_nil ⟨by walk_at "len", 2, shw.ok, by omega, shw.sh, wb, ?_⟩
    refine od_neS (isBl_of ⟨fun z => ?_, fun _ => ?_⟩)
    · rw [decide_eq_true rfl] at z
      cases z
    refine dw_one_or ?_
    refine dt_not ?_
    refine dt_val (by intro _; rfl) ?_
    refine de_callG (ok__law_is_paper T) (hr.mono (by decide)) (guards_deeper hgd) rfl ?_
    refine da_cons ?_
    refine de_var 0 rfl (.inl rfl) rfl ?_
    refine da_cons ?_
    refine de_var 5 rfl (.inl rfl) rfl ?_
    refine da_cons ?_
    refine de_var 2 rfl (.inl rfl) rfl ?_
    exact da_nil ⟨n, _, _, rfl, .t hf hg, h1, by omega, isBl_of rfl⟩
  case g1 =>
  -- equal to itself
  refine dss_cons (ds_if (DT.imp (Φ := fun b => b = false) ?t2 fun b hb => ⟨fun h => (by rw [hb] at h; cases h), fun _ => dss_nil ?g2⟩))
  case t2 =>
    refine dt_W ?_
    refine dw_or ?_
    refine dt_cmpO op_notBl rfl ?_
    refine de_cmpK (op_eqOwn (ok_teq T) (k := 1) (hr.mono (by decide))) rfl ?_
    refine de_var 5 rfl (.inl rfl) rfl ?_
    refine de_makeK0 (mkk_T T) (hr.mono (by decide)) rfl ?_
    refine dk_cons ?_
    refine de_var 1 rfl (.inl rfl) rfl ?_
    refine dk_cons ?_
    refine de_var 3 rfl (.inl rfl) rfl ?_
    refine dk_cons ?_
    refine de_var 4 rfl (.inl rfl) rfl ?_
    refine dk_nil ⟨rfl, _, _, _, rfl, oki, okf, okg, fun p hp => (by rw [hno] at hp; cases hp), fun _ => ?_⟩
    refine odt_T T (.t n f g) fun r hq => ?_
    obtain rfl : r = true := hq.mpr rfl
    refine de_bl ?_
    refine od_notB (isBl_of ⟨fun z => absurd z (by decide), fun _ => ?_⟩)
    refine dw_one_or ?_
    refine dt_cmpO op_notBl rfl ?_
    refine de_cmpK (op_neOwn (ok_teq T) (k := 1) (hr.mono (by decide))) rfl ?_
    refine de_var 5 rfl (.inl rfl) rfl ?_
    refine de_makeD (mkd_T T) (hr.mono (by decide)) rfl ?_
    refine da_cons ?_
    refine de_var 1 rfl (.inl rfl) rfl ?_
    refine da_cons ?_
    refine de_var 3 rfl (.inl rfl) rfl ?_
    refine da_cons ?_
    refine de_var 4 rfl (.inl rfl) rfl ?_
    refine da_nil ⟨_, _, _, rfl, oki, okf, okg, fun p hp => (by rw [hno] at hp; cases hp), fun _ => ?_⟩
    refine odt_T T (.t n f g) fun r hq => ?_
    obtain rfl : r = true := hq.mpr rfl
    refine de_bl ?_
    exact od_notB (isBl_of (by decide))
  case g2 =>
  -- near papers
  refine dss_cons (ds_set 6 sc.nd rfl (.inl rfl) ?_)
  refine de_call (ok__law_draw T) (hr.mono (by decide)) rfl ?_
  refine da_cons ?_
  refine de_var 0 rfl (.inl rfl) rfl ?_
  refine da_cons ?_
  refine de_len rfl (b_len T) ?_
  refine de_var 4 rfl (.inl rfl) rfl ⟨_, rfl, ?_⟩
  rw [lg]
  refine da_nil ⟨_, rfl, by omega, fun i6 i60 i61 => ?_⟩
  obtain ⟨j6, rfl⟩ : ∃ j : Nat, i6 = j := ⟨i6.toNat, by omega⟩
  have j6l : j6 < g.length := by rw [hg.len]; omega
  refine dss_cons (ds_set 7 sc.nd rfl (.inl rfl) ?_)
  refine de_call (ok__law_draw T) (hr.mono (by decide)) rfl ?_
  refine da_cons ?_
  refine de_var 0 rfl (.inl rfl) rfl ?_
  refine da_cons ?_
  refine de_len rfl (b_len T) ?_
  refine de_var 3 rfl (.inl rfl) rfl ⟨_, rfl, ?_⟩
  rw [lf]
  refine da_nil ⟨_, rfl, by omega, fun i7 i70 i71 => ?_⟩
  obtain ⟨j7, rfl⟩ : ∃ j : Nat, i7 = j := ⟨i7.toNat, by omega⟩
  have j7l : j7 < f.length := by rw [hf.len]; omega
  have hf2 := flipW (j := j7) hf (by omega)
  have hg2 := flipW (j := j6) hg (by omega)
  have hno2 := tab_none h1 h3 hf hg2
  have hno3 := tab_none h1 h3 hf2 hg
  refine dss_cons (ds_set 8 sc.nd rfl (.inl rfl) ?_)
  refine de_lst ?_
  refine da_cons ?_
  refine de_makeD (mkd_T T) (hr.mono (by decide)) rfl ?_
  refine da_cons ?_
  refine de_var 1 rfl (.inl rfl) rfl ?_
  refine da_cons ?_
  refine de_var 3 rfl (.inl rfl) rfl ?_
  refine da_cons ?_
  refine de_flip j6l (by rw [hg.len]; omega) (fun e he Ψ h => by rcases he with rfl | rfl | rfl <;> exact de_var 4 rfl (.inl rfl) rfl h) (fun e he Ψ h => by rcases he with rfl | rfl | rfl <;> exact de_var 6 rfl (.inl rfl) rfl h) ?_
  refine da_nil ⟨_, _, _, rfl, oki, okf, ok_wd _ 8, fun p hp => (by rw [hno2] at hp; cases hp), fun _ => ?_⟩
  refine da_cons ?_
  refine de_makeD (mkd_T T) (hr.mono (by decide)) rfl ?_
  refine da_cons ?_
  refine de_var 1 rfl (.inl rfl) rfl ?_
  refine da_cons ?_
  refine de_flip j7l (by rw [hf.len]; omega) (fun e he Ψ h => by rcases he with rfl | rfl | rfl <;> exact de_var 3 rfl (.inl rfl) rfl h) (fun e he Ψ h => by rcases he with rfl | rfl | rfl <;> exact de_var 7 rfl (.inl rfl) rfl h) ?_
  refine da_cons ?_
  refine de_var 4 rfl (.inl rfl) rfl ?_
  refine da_nil ⟨_, _, _, rfl, oki, ok_wd _ 8, okg, fun p hp => (by rw [hno3] at hp; cases hp), fun _ => ?_⟩
  refine da_nil ⟨by walk_at "len", ?_⟩
  -- unlike them
  refine dss_cons (ds_forL 9 rfl (passes_of rfl) sc.nd rfl (.inl rfl) ?_)
  refine de_op op_addU ?_
  refine de_var 8 rfl (.inl rfl) rfl ?_
  refine de_lst ?_
  refine da_cons ?_
  refine de_non ?_
  refine da_cons ?_
  refine de_tup ?_
  refine da_cons ?_
  refine de_var 1 rfl (.inl rfl) rfl ?_
  refine da_cons ?_
  refine de_var 3 rfl (.inl rfl) rfl ?_
  refine da_cons ?_
  refine de_var 4 rfl (.inl rfl) rfl ?_
  refine da_nil ⟨by walk_at "len", ?_⟩
  refine da_cons ?_
  refine de_call (ok_paper_of T) (hr.mono (by decide)) rfl ?_
  refine da_cons ?_
  refine de_tup ?_
  refine da_cons ?_
  refine de_int ?_
  refine da_cons ?_
  refine de_int ?_
  refine da_nil ⟨by walk_at "len", ?_⟩
  refine da_nil ⟨[0, 1], rfl, (fun x hx => by simp at hx; omega), by decide, by decide, fun Q => ?_⟩
  refine da_nil ⟨by walk_at "len", ?_⟩
  refine od_addL (by show 2 + 3 ≤ sizeLine; omega) ?_
  refine ⟨_, rfl, fun j δ' => ∃ z9, δ' = [.v .tape, .v (.int n), .v (PTd n f g), .v (wd f), .v (wd g), .v (TObj n f g), .v (.int j6), .v (.int j7), .v (.lst [TObj n f (flipI g j6), TObj n (flipI f j7) g]), z9, .no, .no] ∧ vO δ' = true, fun j δ' ⟨z9, e, hv⟩ => hv, ⟨.no, rfl, rfl⟩, fun j y δ' hy ⟨z9, e, hv⟩ => ?_, fun δ' ⟨z9, e, hv⟩ => ?_⟩
  · subst e
    have hy2 : Oth y ∧ y ≠ TObj n f g := all_a (p := fun y => Oth y ∧ y ≠ TObj n f g) (all_c ⟨.t .., fun z => flip_ne j6l (by
        injection z with _ z
        injection z with _ z
        injection z with _ z
        injection z with z _
        exact wd_inj z)⟩ (all_c ⟨.t .., fun z => flip_ne j7l (by
        injection z with _ z
        injection z with _ z
        injection z with z _
        exact wd_inj z)⟩ all_n)) (all_c ⟨.non, fun z => (by cases z)⟩ (all_c ⟨.tup _, fun z => (by cases z)⟩ (all_c ⟨.s .., fun z => (by cases z)⟩ all_n))) y (List.mem_of_getElem? hy)
    clear hy
    refine dss_one (ds_if (DT.imp (Φ := fun b => b = false) ?t3 fun b hb => ⟨fun h => (by rw [hb] at h; cases h), fun _ => dss_nil ⟨_, rfl, rfl⟩⟩))
    case t3 =>
    refine dt_W ?_
    refine dw_or ?_
    refine dt_cmpO op_notBl rfl ?_
    refine de_cmpK (op_eqOwn (ok_teq T) (k := 1) (hr.mono (by decide))) rfl ?_
    refine de_var 5 rfl (.inl rfl) rfl ?_
    refine de_var 9 rfl (.inl rfl) rfl ?_
    refine odt_T T hy2.1 fun r hq => ?_
    obtain rfl : r = false := Bool.eq_false_iff.mpr fun z => hy2.2 (hq.mp z)
    refine de_bl ?_
    refine od_notB (isBl_of ⟨fun z => absurd z (by decide), fun _ => ?_⟩)
    refine dw_one_or ?_
    refine dt_cmpO op_notBl rfl ?_
    refine de_cmpK (op_neOwn (ok_teq T) (k := 1) (hr.mono (by decide))) rfl ?_
    refine de_var 5 rfl (.inl rfl) rfl ?_
    refine de_var 9 rfl (.inl rfl) rfl ?_
    refine odt_T T hy2.1 fun r hq => ?_
    obtain rfl : r = false := Bool.eq_false_iff.mpr fun z => hy2.2 (hq.mp z)
    refine de_bl ?_
    exact od_notB (isBl_of (by decide))
  subst e
  -- no size
  refine dss_cons (ds_set 10 sc.nd rfl (.inl rfl) ?_)
  refine de_call (ok__law_pick T) (hr.mono (by decide)) rfl ?_
  refine da_cons ?_
  refine de_var 0 rfl (.inl rfl) rfl ?_
  refine da_cons ?_
  refine de_lst ?_
  refine da_cons ?_
  refine de_int ?_
  refine da_cons ?_
  refine de_int ?_
  refine da_cons ?_
  refine de_bl ?_
  refine da_cons ?_
  refine de_non ?_
  refine da_cons ?_
  refine de_str ?_
  refine da_cons ?_
  refine de_neg ?_
  refine de_int ?_
  refine ⟨_, rfl, ?_⟩
  refine da_cons ?_
  refine de_tup ?_
  refine da_cons ?_
  refine de_int ?_
  refine da_nil ⟨by walk_at "len", ?_⟩
  refine da_cons ?_
  refine de_op op_pow ?_
  refine de_int ?_
  refine de_int ?_
  refine od_powI ⟨by omega, by omega, by decide⟩ ?_
  refine da_nil ⟨by walk_at "len", ?_⟩
  refine da_nil ⟨_, rfl, by simp, fun size hsize => ?_⟩
  have hs : size.ok 9 = true ∧ ∀ f g, tabFault size f g = some ("size" : Str) := all_c (p := fun size => size.ok 9 = true ∧ ∀ f g, tabFault size f g = some ("size" : Str)) ⟨by rw [D.ok], tab_size (by omega)⟩ (all_c ⟨by rw [D.ok], tab_size (by omega)⟩ (all_c ⟨by rw [D.ok], fun _ _ => rfl⟩ (all_c ⟨by rw [D.ok], fun _ _ => rfl⟩ (all_c ⟨by decide +kernel, fun _ _ => rfl⟩ (all_c ⟨by rw [D.ok], tab_size (by omega)⟩ (all_c ⟨by decide +kernel, fun _ _ => rfl⟩ (all_c ⟨by rw [D.ok], tab_size (by decide +kernel)⟩ all_n))))))) size hsize
  clear hsize
  refine dss_cons (ds_if (DT.imp (Φ := fun b => b = false) ?t4 fun b hb => ⟨fun h => (by rw [hb] at h; cases h), fun _ => dss_nil ?g4⟩))
  case t4 =>
    refine dt_told (p := "size") (k := 0) hr.units (by decide +kernel) ?_
    refine de_call (ok__law_table_refusal T) (hr.mono (by decide)) rfl ?_
    refine da_cons ?_
    refine de_var 10 rfl (.inl rfl) rfl ?_
    refine da_cons ?_
    refine de_var 3 rfl (.inl rfl) rfl ?_
    refine da_cons ?_
    refine de_non ?_
    refine da_nil ⟨_, _, _, rfl, hs.1, okf, by rw [D.ok], ?_⟩
    unfold tabTold
    rw [hs.2]
    exact ⟨rfl, de_int ⟨rfl, rfl⟩⟩
  case g4 =>
  -- no f
  refine dss_cons (ds_set 11 sc.nd rfl (.inl rfl) ?_)
  refine de_call (ok__law_pick T) (hr.mono (by decide)) rfl ?_
  refine da_cons ?_
  refine de_var 0 rfl (.inl rfl) rfl ?_
  refine da_cons ?_
  refine de_lst ?_
  refine da_cons ?_
  refine de_init ?_
  refine de_var 3 rfl (.inl rfl) rfl ⟨_, rfl, ?_⟩
  refine da_cons ?_
  refine de_more ?_
  refine de_var 3 rfl (.inl rfl) rfl ⟨_, rfl, by omega, ?_⟩
  refine de_int ?_
  refine da_cons ?_
  refine de_toL rfl (b_list T) ?_
  refine de_var 3 rfl (.inl rfl) rfl ⟨_, rfl, ?_⟩
  refine da_cons ?_
  refine de_non ?_
  refine da_cons ?_
  refine de_more ?_
  refine de_init ?_
  refine de_var 3 rfl (.inl rfl) rfl ⟨_, rfl, _, rfl, by rw [List.length_dropLast]; omega, ?_⟩
  refine de_int ?_
  refine da_cons ?_
  refine de_more ?_
  refine de_init ?_
  refine de_var 3 rfl (.inl rfl) rfl ⟨_, rfl, _, rfl, by rw [List.length_dropLast]; omega, ?_⟩
  refine de_bl ?_
  refine da_cons ?_
  refine de_int ?_
  refine da_cons ?_
  refine de_tup (da_nil ⟨by walk_at "len", ?_⟩)
  refine da_nil ⟨by walk_at "len", ?_⟩
  refine da_nil ⟨_, rfl, by simp, fun bad hbad => ?_⟩
  rw [← List.map_dropLast] at hbad
  have nb : NoB (2 ^ n) bad := all_c (nob_init hf (by omega)) (all_c (nob_more hf (fl_bit (.inl rfl))) (all_c (nob_lst hf) (all_c (nob_fl fl_non rfl) (all_c (nob_end hf fl_2 rfl) (all_c (nob_end hf (fl_bl true) rfl) (all_c (nob_fl fl_5 rfl) (all_c (nob_nil (by omega)) all_n))))))) bad hbad
  clear hbad
  refine dss_cons (ds_if (DT.imp (Φ := fun b => b = false) ?t5 fun b hb => ⟨fun h => (by rw [hb] at h; cases h), fun _ => dss_nil ?g5⟩))
  case t5 =>
    refine dt_told (p := "f") (k := 0) hr.units (by decide +kernel) ?_
    refine de_call (ok__law_table_refusal T) (hr.mono (by decide)) rfl ?_
    refine da_cons ?_
    refine de_var 1 rfl (.inl rfl) rfl ?_
    refine da_cons ?_
    refine de_var 11 rfl (.inl rfl) rfl ?_
    refine da_cons ?_
    refine de_call (ok__law_pick T) (hr.mono (by decide)) rfl ?_
    refine da_cons ?_
    refine de_var 0 rfl (.inl rfl) rfl ?_
    refine da_cons ?_
    refine de_lst ?_
    refine da_cons ?_
    refine de_var 4 rfl (.inl rfl) rfl ?_
    refine da_cons ?_
    refine de_non ?_
    refine da_nil ⟨by walk_at "len", ?_⟩
    refine da_nil ⟨_, rfl, by simp, fun g' hg' => ?_⟩
    have okg' : g'.ok 9 = true := all_c (p := fun d => d.ok 9 = true) okg (all_c (by rw [D.ok]) all_n) g' hg'
    clear hg'
    refine da_nil ⟨_, _, _, rfl, oki, nb.ok, okg', ?_⟩
    unfold tabTold
    rw [tab_f h1 h3 nb.no]
    exact ⟨rfl, de_int ⟨rfl, rfl⟩⟩
  case g5 =>
  -- no g
  refine dss_one (ds_ret ?_)
  refine de_told (p := "g") (k := 0) hr.units (by decide +kernel) ?_
  refine de_call (ok__law_table_refusal T) (hr.mono (by decide)) rfl ?_
  refine da_cons ?_
  refine de_var 1 rfl (.inl rfl) rfl ?_
  refine da_cons ?_
  refine de_var 3 rfl (.inl rfl) rfl ?_
  refine da_cons ?_
  refine de_call (ok__law_pick T) (hr.mono (by decide)) rfl ?_
  refine da_cons ?_
  refine de_var 0 rfl (.inl rfl) rfl ?_
  refine da_cons ?_
  refine de_lst ?_
  refine da_cons ?_
  refine de_init ?_
  refine de_var 4 rfl (.inl rfl) rfl ⟨_, rfl, ?_⟩
  refine da_cons ?_
  refine de_more ?_
  refine de_var 4 rfl (.inl rfl) rfl ⟨_, rfl, by omega, ?_⟩
  refine de_int ?_
  refine da_cons ?_
  refine de_toL rfl (b_list T) ?_
  refine de_var 4 rfl (.inl rfl) rfl ⟨_, rfl, ?_⟩
  refine da_cons ?_
  refine de_non ?_
  refine da_cons ?_
  refine de_more ?_
  refine de_init ?_
  refine de_var 4 rfl (.inl rfl) rfl ⟨_, rfl, _, rfl, by rw [List.length_dropLast]; omega, ?_⟩
  refine de_int ?_
  refine da_cons ?_
  refine de_tup (da_nil ⟨by walk_at "len", ?_⟩)
  refine da_cons ?_
  refine de_op op_addU ?_
  refine de_var 3 rfl (.inl rfl) rfl ?_
  refine de_op op_mulU ?_
  refine de_tup ?_
  refine da_cons ?_
  refine de_int ?_
  refine da_nil ⟨by walk_at "len", ?_⟩
  refine de_int ?_
  refine od_mulT (by simp) (by omega) (by decide) ?_
  refine od_addT (by rw [lf]; show 2 ^ n + 7 ≤ sizeLine; omega) ?_
  refine da_nil ⟨by walk_at "len", ?_⟩
  refine da_nil ⟨_, rfl, by simp, fun bad2 hbad2 => ?_⟩
  rw [← List.map_dropLast] at hbad2
  have n7 : NoB (2 ^ (n * n)) (.tup (f.map D.int ++ (List.replicate (7 : Int).toNat [D.int 0]).flatten)) := nob_len (ok_fl (all_a (fl_ints hf.bits) (by
    show ∀ d ∈ [D.int 0, D.int 0, D.int 0, D.int 0, D.int 0, D.int 0, D.int 0], Fl d
    have z := fl_bit (.inl rfl : bit 0)
    exact all_c z (all_c z (all_c z (all_c z (all_c z (all_c z (all_c z all_n)))))))) ) (by
    show ((((f.map D.int ++ (List.replicate (7 : Int).toNat [D.int 0]).flatten).length : Nat) : Int)) ≠ ((2 ^ (n * n) : Nat) : Int)
    rw [List.length_append, lf]
    show (((2 ^ n + 7 : Nat) : Int)) ≠ ((2 ^ (n * n) : Nat) : Int)
    omega)
  have nb2 : NoB (2 ^ (n * n)) bad2 := all_c (nob_init hg (by omega)) (all_c (nob_more hg (fl_bit (.inl rfl))) (all_c (nob_lst hg) (all_c (nob_fl fl_non rfl) (all_c (nob_end hg fl_2 rfl) (all_c (nob_nil (by omega)) (all_c n7 all_n)))))) bad2 hbad2
  clear hbad2
  refine da_nil ⟨_, _, _, rfl, oki, okf, nb2.ok, ?_⟩
  unfold tabTold
  rw [tab_g h1 h3 hf nb2.no]
  exact ⟨rfl, de_int ⟨rfl, hΦ⟩⟩
end
end Fr
end
-- FrL13
section
set_option Elab.async false
set_option linter.all false
set_option maxRecDepth 100000
/-! What SumsPaper refuses; papers with one attribute changed. -/
namespace Fr
open PySem PySem.Spec PyProof.Rows L2
-- macros
local macro_rules | `(tactic| walk_at "side") => `(tactic| first | assumption | omega | rfl | decide)
local macro_rules | `(tactic| walk_at "cm") => `(tactic| first | exact .inl ⟨by omega, by omega⟩ | exact .inr ⟨by omega, by omega⟩)
local macro_rules | `(tactic| walk_at "len") => `(tactic| first | decide | (show _ ≤ sizeLine; simp only [List.length_cons, List.length_nil]; decide))
local macro_rules | `(tactic| walk_at "add") => `(tactic| first | refine od_addI ?_ | refine od_addT (by walk_at "side") ?_ | refine od_addL (by walk_at "side") ?_)
local macro_rules | `(tactic| walk_at "mul") => `(tactic| first | refine od_mulI (by walk_at "cm") ?_ | refine od_mulT (by walk_at "side") (by walk_at "side") (by walk_at "side") ?_)
local macro_rules | `(tactic| walk_at "ok") => `(tactic| first | assumption | (simp only [D.ok, okL, Bool.and_true, Bool.true_and]; first | done | assumption | decide))
local macro_rules | `(tactic| walk_at "eq") => `(tactic| first | refine od_eqII ?_ | refine od_eq 20 20 (by walk_at "ok") (by walk_at "ok") (by omega) ?_)
local macro_rules | `(tactic| walk_at "ne") => `(tactic| first | refine od_neII ?_ | refine od_ne 20 20 (by walk_at "ok") (by walk_at "ok") (by omega) ?_)
local macro_rules | `(tactic| walk_at "slice") => `(tactic| first | refine .inl ⟨_, rfl, ?_⟩ | refine .inr ⟨_, rfl, ?_⟩)
local macro_rules | `(tactic| walk_at "vis") => `(tactic| first | exact .inl rfl | exact .inr (.inl rfl) | exact .inr (.inr rfl))
local macro_rules | `(tactic| walk_at "loc") => `(tactic| first | exact .inl rfl | exact .inr rfl)
local macro_rules | `(tactic| walk_at "locf") => `(tactic| first | exact .inr rfl | exact .inl rfl)
-- end macros
/-! ### the first fault -/
def ltO : Option D → D → Bool
  | some x, d => ltD x d
  | none, _ => true
theorem ffN_cons (fit : D → Bool) (p : Option D) (k : Nat) (d : D) (l : List D) : ffN fit p k (d :: l) = if (fit d && ltO p d) = true then ffN fit (some d) (k + 1) l else some k := by cases p <;> rfl
theorem ffN_pre {fit : D → Bool} {rest : List D} : ∀ {pre : List D} {p : Option D} {k : Nat}, (∀ d ∈ pre, fit d = true) → Asc pre → (∀ x, p = some x → ∀ d, pre[0]? = some d → ltD x d = true) → ffN fit p k (pre ++ rest) = ffN fit (pre.getLast?.or p) (k + pre.length) rest
  | [], p, k, _, _, _ => by
    show ffN fit p k rest = ffN fit ((none : Option D).or p) (k + 0) rest
    rw [Option.none_or, Nat.add_zero]
  | d :: pre, p, k, hf, ha, hp => by
    obtain ⟨a1, a2⟩ := List.pairwise_cons.mp ha
    have c : (fit d && ltO p d) = true := by
      rw [hf d List.mem_cons_self, Bool.true_and]
      cases p with
      | none => rfl
      | some x => exact hp x rfl d rfl
    have ih := ffN_pre (fit := fit) (rest := rest) (pre := pre) (p := some d) (k := k + 1) (fun x hx => hf x (List.mem_cons_of_mem _ hx)) a2 (fun x hx y hy => by
      cases hx
      exact a1 y (List.mem_of_getElem? hy))
    have e : (d :: pre).getLast?.or p = pre.getLast?.or (some d) := by
      rw [List.getLast?_cons]
      cases pre.getLast? <;> rfl
    rw [e, List.length_cons, show k + (pre.length + 1) = k + 1 + pre.length by omega, ← ih, List.cons_append, ffN_cons, if_pos c]
theorem ff_none {fit : D → Bool} {l : List D} (hf : ∀ d ∈ l, fit d = true) (ha : Asc l) : ffD fit (.tup l) = .non := by
  have q := ffN_pre (fit := fit) (rest := []) (pre := l) (p := none) (k := 0) hf ha (fun x hx => by cases hx)
  rw [List.append_nil] at q
  unfold ffD
  show (match ffN fit none 0 l with | some k => D.int k | none => .non) = _
  rw [q]
  rfl
/-- b stands at j, among rows that ascend: it is no row, or the one before it is not smaller -/
theorem ff_at {fit : D → Bool} {l : List D} {j : Nat} {b : D} (hf : ∀ d ∈ l, fit d = true) (ha : Asc l) (hj : j ≤ l.length) (hb : fit b = false ∨ 0 < j ∧ (l[j - 1]? = some b ∨ l[0]? = some b)) : ffD fit (.tup (l.take j ++ [b] ++ l.drop j)) = .int j := by
  have q := ffN_pre (fit := fit) (rest := b :: l.drop j) (pre := l.take j) (p := none) (k := 0) (fun d hd => hf d (List.mem_of_mem_take hd)) (ha.sublist (List.take_sublist _ _)) (fun x hx => by cases hx)
  rw [Option.or_none, List.length_take, Nat.min_eq_left hj, Nat.zero_add] at q
  have c : (fit b && ltO (l.take j).getLast? b) ≠ true := by
    rcases hb with hb | ⟨j0, hb⟩
    · rw [hb, Bool.false_and]
      exact Bool.false_ne_true
    · obtain ⟨x, hx⟩ : ∃ x, l[j - 1]? = some x := ⟨_, List.getElem?_eq_getElem (by omega)⟩
      have e : (l.take j).getLast? = some x := by
        rw [List.getLast?_eq_getElem?, List.length_take, Nat.min_eq_left hj, List.getElem?_take, if_pos (by omega)]
        exact hx
      rw [e]
      show (fit b && ltD x b) ≠ true
      have lt : ltD x b = false := by
        rcases hb with hb | hb
        · rw [hx] at hb
          cases hb
          exact ltD_irrefl _
        · by_cases j1 : j = 1
          · subst j1
            rw [hx] at hb
            cases hb
            exact ltD_irrefl _
          · have hx1 := List.getElem?_eq_some_iff.mp hx
            have hb1 := List.getElem?_eq_some_iff.mp hb
            obtain ⟨xl, rfl⟩ := hx1
            obtain ⟨bl, rfl⟩ := hb1
            exact ltD_asym (List.pairwise_iff_getElem.mp ha 0 (j - 1) bl xl (by omega))
      rw [lt, Bool.and_false]
      exact Bool.false_ne_true
  unfold ffD
  show (match ffN fit none 0 (l.take j ++ [b] ++ l.drop j) with | some k => D.int k | none => .non) = _
  rw [List.append_assoc, List.singleton_append, q, ffN_cons, if_neg c]
theorem fits_w {n : Nat} {ws : List (List Int)} (h : ∀ r ∈ ws, WdI n r) (h1 : 1 ≤ n) (h12 : n ≤ 12) : ∀ d ∈ ws.map wd, isWord d n = true := fun d hd => by
  obtain ⟨r, hr, rfl⟩ := List.mem_map.mp hd
  exact wd_word (h r hr).bits (by rw [(h r hr).len]; exact h1) (by rw [(h r hr).len]; exact h12) (by rw [(h r hr).len])
theorem fits_s {n : Nat} {qs : List (List (List Int))} (h : ∀ r ∈ qs, SqI n r) (h1 : 1 ≤ n) (h12 : n ≤ 12) : ∀ d ∈ qs.map sq, isMat d n = true := fun d hd => by
  obtain ⟨r, hr, rfl⟩ := List.mem_map.mp hd
  exact sq_isMat (h r hr) h1 h12
/-- what SumsPaper takes -/
structure SPk (n : Nat) (v : List Int) (q : List (List Int)) (ws : List (List Int)) (qs : List (List (List Int))) : Prop where
  h1 : 1 ≤ n
  h12 : n ≤ 12
  hv : WdI n v
  hq : SqI n q
  hw : ∀ r ∈ ws, WdI n r
  hs : ∀ r ∈ qs, SqI n r
  aw : Asc (ws.map wd)
  aq : Asc (qs.map sq)
section
variable {n : Nat} {v : List Int} {q : List (List Int)} {ws : List (List Int)} {qs : List (List (List Int))}
theorem SPk.fault (h : SPk n v q ws qs) : sumFault (wd v) (sq q) (.tup (ws.map wd)) (.tup (qs.map sq)) = none :=
  fault_none h.hv h.hq h.h1 h.h12 (ff_none (fits_w h.hw h.h1 h.h12) h.aw) (ff_none (fits_s h.hs h.h1 h.h12) h.aq)
end
/-! ### squares from their bits -/
theorem flat_rows {α : Type} {l : List α} {n : Nat} (h : l.length = n * n) : (rowsOf l n).flatten = l := by
  have q : ∀ k : Nat, ((List.range k).map fun i => (l.drop (i * n)).take n).flatten = l.take (k * n) := fun k => by
    induction k with
    | zero => rw [Nat.zero_mul, List.take_zero]; rfl
    | succ k ih => rw [List.range_succ, List.map_append, List.flatten_append, ih, Nat.succ_mul, List.take_add]; simp
  unfold rowsOf
  rw [q n, ← h, List.take_length]
theorem turned_ne {n : Nat} {Q : List (List Int)} {j : Nat} (hQ : SqI n Q) (hj : j < n * n) : rowsOf (flipI Q.flatten j) n ≠ Q := fun e => by
  have l := hQ.flat.len
  have q := flat_rows (l := flipI Q.flatten j) (n := n) (by rw [flip_len (by omega), l])
  rw [e] at q
  exact flip_ne (by omega) q.symm
section
variable {X : Cx} {δ : List Sl} {Φ : D → Prop} {a b c d a1 a2 : Expr} {p p1 p2 p3 p4 p5 p6 p7 pos : Pos} {j1 j2 j3 j4 : Nat}
/-- (1 - x[0],) + x[1:] -/
theorem de_flip0 {l : List Int} (h0 : 0 < l.length) (hz : l.length ≤ 10000) (xa : ∀ (e : Expr), e = a1 ∨ e = a2 → ∀ Ψ : D → Prop, Ψ (wd l) → DE X e δ Ψ) (h : Φ (wd (flipI l 0)))
    (hst : starEach [.BinOp (.Constant (.int 1) j1 p1) .Sub (.Subscript a1 (.Constant (.int 0) j2 p2) p3) p4] X.env = (false, eval (.BinOp (.Constant (.int 1) j1 p1) .Sub (.Subscript a1 (.Constant (.int 0) j2 p2) p3) p4) X.env) :: starEach [] X.env := by rfl) :
    DE X (.BinOp (.Tuple [.BinOp (.Constant (.int 1) j1 p1) .Sub (.Subscript a1 (.Constant (.int 0) j2 p2) p3) p4] j3 p5) .Add (.Subscript a2 (.Slice (some (.Constant (.int 1) j4 p6)) none none p7) p) pos) δ Φ := by
  have big : (30000 : Nat) ≤ sizeLine := by decide
  refine de_less ?_ hst
  refine de_op op_sub ?_
  refine de_int ?_
  refine de_ix ?_
  refine xa _ (.inl rfl) _ ?_
  refine de_int ?_
  refine ⟨_, _, .int l[0], .inl rfl, rfl, atI_nat (by omega) (by show (l.map D.int)[0]? = _; rw [List.getElem?_map, List.getElem?_eq_getElem h0]; rfl), ?_⟩
  refine od_subI ?_
  refine de_rest ?_
  refine xa _ (.inr rfl) _ ?_
  refine ⟨_, rfl, _, rfl, by rw [List.length_drop, List.length_map]; omega, ?_⟩
  have e : D.int (1 - l[0]'h0) :: (l.map D.int).drop 1 = (flipI l 0).map D.int := by
    unfold flipI
    rw [List.map_append, List.map_append, List.map_drop, List.getElem?_eq_getElem h0]
    rfl
  have h : Φ (.tup ((flipI l 0).map D.int)) := h
  rw [← e] at h
  exact h
/-- SumsPaper(a, b, words=c, squares=d) -/
theorem de_SP (T : Tx X.K X.mg X.base) (hr : Room 13 X.A) (hg : Gl X "SumsPaper") (h : DE X a δ fun da => DE X b δ fun db => DE X c δ fun dc => DE X d δ fun dd => ∃ n v q ws qs, da = wd v ∧ db = sq q ∧ dc = .tup (ws.map wd) ∧ dd = .tup (qs.map sq) ∧ SPk n v q ws qs ∧ Φ (SObj n v q ws qs))
    (hs1 : starEach [a, b] X.env = (false, eval a X.env) :: starEach [b] X.env := by rfl) (hs2 : starEach [b] X.env = (false, eval b X.env) :: starEach [] X.env := by rfl)
    (hall : (backToKw pos (keywordEach [⟨some "words", c, p1⟩, ⟨some "squares", d, p2⟩] X.env)).all (·.1.isSome) = true := by rfl) (hks : (backToKw pos (keywordEach [⟨some "words", c, p1⟩, ⟨some "squares", d, p2⟩] X.env)).filterMap (·.1) = ([("words" : Str), ("squares" : Str)] : List Str) := by rfl)
    (hpl : ((backTo pos (starEach [a, b] X.env)).any (·.1) || (backToKw pos (keywordEach [⟨some "words", c, p1⟩, ⟨some "squares", d, p2⟩] X.env)).any (·.1.isNone)) = false := by rfl) : DE X (.Call (.Name "SumsPaper" p) [a, b] [⟨some "words", c, p1⟩, ⟨some "squares", d, p2⟩] pos) δ Φ := by
  refine de_makeK (mkk_S T) hr hg ?_ hall hks (by decide) hs1 hpl
  refine da_cons (h.imp fun da hb => da_cons (hb.imp fun db hc => da_nil (dk_cons (hc.imp fun dc hd => dk_cons (hd.imp fun dd z => dk_nil ?_)))) hs2) hs1
  obtain ⟨n, v, q, ws, qs, rfl, rfl, rfl, rfl, k, hΦ⟩ := z
  refine ⟨rfl, rfl, _, _, _, _, rfl, ok_wd v 8, ok_sq q 7, wds_ok ws 7, sqs_ok qs 6, fun p k' hp => ?_, fun _ => ?_⟩
  · rw [k.fault] at hp
    cases hp
  · rw [lenD_wd, k.hv.len]
    exact hΦ
end
section
variable {P : Program} {w : World} {K : PySem.W.Frag} {mg : Str → Option Value} {base : Heap}
abbrev Nun : List Str := ["_law_tape_here", "_law_made_here", "_law_paper", "_law_word_here", "_law_square_here", "_law_words", "_law_squares", "_law_n", "_law_bits", "_law_at", "_law_others", "_law_turned", "_law_more", "_law_other"]
/-- another paper -/
def Unl (v : List Int) (q : List (List Int)) (ws : List (List Int)) (qs : List (List (List Int))) (d : D) : Prop := (∃ n v q ws qs, d = SObj n v q ws qs) ∧ ¬ ∃ n', d = SObj n' v q ws qs
theorem unl_of {v v' : List Int} {q q' : List (List Int)} {ws ws' : List (List Int)} {qs qs' : List (List (List Int))} {n : Nat} (h : v' = v → q' = q → ws' = ws → qs' = qs → False) : Unl v q ws qs (SObj n v' q' ws' qs') := by
  refine ⟨⟨_, _, _, _, _, rfl⟩, fun ⟨n', e⟩ => ?_⟩
  injection e with _ e
  injection e with _ e
  injection e with e1 e
  injection e with e2 e
  injection e with e3 e
  injection e with e4 _
  have e3 : ws' = ws := sq_inj e3
  have e4 : qs' = qs := by
    have e4 : qs'.map sq = qs.map sq := D.tup.inj e4
    exact (List.map_inj_right fun a b e => sq_inj e).mp e4
  exact h (wd_inj e1) (sq_inj e2) e3 e4
def sp__law_unlike_near : DSp := fun ds Φ _ => ∃ n v q ws qs, ds = [.tape, SObj n v q ws qs, PSd n v q ws qs] ∧ SPk n v q ws qs ∧ ws.length ≤ 3 ∧ qs.length ≤ 3 ∧ Φ (.bl true)
theorem sc__law_unlike_near : FnScope Nun ["_law_tape_here", "_law_made_here", "_law_paper"] (defScope s_Lunlike_near) := ⟨rfl, rfl, rfl, by decide +kernel, rfl, by decide +kernel, by decide +kernel⟩
/-- the state by its names -/
theorem dss_norm {X : Cx} {sts : List Stmt} {δ : List Sl} (δ' : List Sl) {Δ : DEnds} (e : δ = δ') (h : DSs X sts δ' Δ) : DSs X sts δ Δ := e ▸ h
theorem ok__law_unlike_near (T : Tx K mg base) : Cal P w K mg base 14 "_law_unlike_near" sp__law_unlike_near := by
  refine cal_of T 48 rfl rfl sc__law_unlike_near (fun _ _ _ _ _ _ us hl => match us, hl with | [_, _, _], _ => rfl) (fun ds Φ Ψ ⟨_, _, _, _, _, h, _⟩ => by rw [h] <;> rfl) fun cdv A outer s H E hcd hr ds Φ Ψ h => ?_
  have sc := sc__law_unlike_near
  have hu := u1_of hr
  have big := sizeBig
  obtain ⟨n, v, q, ws, qs, rfl, k, lw, lq, hΦ⟩ := h
  have h1 := k.h1
  have h12 := k.h12
  have hnn : n * n ≤ 12 * 12 := Nat.mul_le_mul h12 h12
  have hn1 : 1 ≤ n * n := Nat.mul_le_mul h1 h1
  have nnc : (n : Int) * n = ((n * n : Nat) : Int) := (Int.natCast_mul n n).symm
  have hfl := k.hq.flat
  refine dss_cons (ds_asg4 3 4 5 6 rfl sc.nd rfl rfl rfl rfl (.inl rfl) (.inl rfl) (.inl rfl) (.inl rfl) ?_)
  refine de_tup ?_
  refine da_cons ?_
  refine de_dget hu ?_
  refine de_var 2 rfl (.inl rfl) rfl ?_
  refine de_str ?_
  refine ⟨_, _, _, rfl, rfl, rfl, ?_⟩
  refine da_cons ?_
  refine de_dget hu ?_
  refine de_var 2 rfl (.inl rfl) rfl ?_
  refine de_str ?_
  refine ⟨_, _, _, rfl, rfl, rfl, ?_⟩
  refine da_cons ?_
  refine de_dget hu ?_
  refine de_var 2 rfl (.inl rfl) rfl ?_
  refine de_str ?_
  refine ⟨_, _, _, rfl, rfl, rfl, ?_⟩
  refine da_cons ?_
  refine de_dget hu ?_
  refine de_var 2 rfl (.inl rfl) rfl ?_
  refine de_str ?_
  refine ⟨_, _, _, rfl, rfl, rfl, ?_⟩
  refine da_nil ⟨by walk_at "len", _, _, _, _, rfl, ?_⟩
  refine dss_norm [.b .tape, .b (SObj n v q ws qs), .b (PSd n v q ws qs), .v (wd v), .v (sq q), .v (.tup (ws.map wd)), .v (.tup (qs.map sq)), .no, .no, .no, .no, .no, .no, .no] rfl ?_
  refine dss_cons (ds_set 7 sc.nd rfl (.inl rfl) ?_)
  refine de_dget hu ?_
  refine de_var 2 rfl (.inl rfl) rfl ?_
  refine de_str ?_
  refine ⟨_, _, _, rfl, rfl, rfl, ?_⟩
  refine dss_cons (ds_set 8 sc.nd rfl (.inl rfl) ?_)
  refine de_call (ok__law_flat T) (hr.mono (by decide)) rfl ?_
  refine da_cons ?_
  refine de_var 4 rfl (.inl rfl) rfl ?_
  refine da_nil ⟨q, rfl, by rw [hfl.len]; omega, ?_⟩
  refine dss_cons (ds_set 9 sc.nd rfl (.inl rfl) ?_)
  refine de_call (ok__law_draw T) (hr.mono (by decide)) rfl ?_
  refine da_cons ?_
  refine de_var 0 rfl (.inl rfl) rfl ?_
  refine da_cons ?_
  refine de_op op_mulU ?_
  refine de_var 7 rfl (.inl rfl) rfl ?_
  refine de_var 7 rfl (.inl rfl) rfl ?_
  refine od_mulI (.inl ⟨by omega, by omega⟩) ?_
  refine da_nil ?_
  rw [nnc]
  refine ⟨_, rfl, by omega, fun i i0 i1 => ?_⟩
  obtain ⟨j, rfl⟩ : ∃ j : Nat, i = j := ⟨i.toNat, by omega⟩
  have jl : j < n * n := by omega
  refine dss_norm ([.b .tape, .b (SObj n v q ws qs), .b (PSd n v q ws qs), .v (wd v), .v (sq q), .v (.tup (ws.map wd)), .v (.tup (qs.map sq)), .v (.int n), .v (wd q.flatten), .v (.int j), .no, .no, .no, .no]) rfl ?_
  -- the word changed
  refine dss_lstO 10 sc.nd rfl (.inl rfl) ?_
  refine da_cons ?_
  refine de_SP T hr rfl ?_
  refine de_flip0 (l := v) (by rw [k.hv.len]; omega) (by rw [k.hv.len]; omega) (fun e he Ψ h => by rcases he with rfl | rfl <;> exact de_var 3 rfl (.inl rfl) rfl h) ?_
  refine de_var 4 rfl (.inl rfl) rfl ?_
  refine de_var 5 rfl (.inl rfl) rfl ?_
  refine de_var 6 rfl (.inl rfl) rfl ?_
  refine ⟨n, _, q, ws, qs, rfl, rfl, rfl, rfl, { k with hv := flipW k.hv (by omega) }, ?_⟩
  refine da_nil ⟨by walk_at "len", ?_⟩
  have u1 : Unl v q ws qs (SObj n (flipI v 0) q ws qs) := unl_of fun e _ _ _ => flip_ne (by rw [k.hv.len]; omega) e
  refine dss_norm ([.b .tape, .b (SObj n v q ws qs), .b (PSd n v q ws qs), .v (wd v), .v (sq q), .v (.tup (ws.map wd)), .v (.tup (qs.map sq)), .v (.int n), .v (wd q.flatten), .v (.int j), .ow [SObj n (flipI v 0) q ws qs], .no, .no, .no]) rfl ?_
  -- the square changed
  have ht : SqI n (rowsOf (flipI q.flatten j) n) := rows_sq (flip_bits hfl.bits (by rw [hfl.len]; exact jl)) (by rw [flip_len (by rw [hfl.len]; exact jl), hfl.len])
  have tne := turned_ne k.hq jl
  refine dss_cons (ds_set 11 sc.nd rfl (.inl rfl) ?_)
  refine de_call (ok__law_rows T) (hr.mono (by decide)) rfl ?_
  refine da_cons ?_
  refine de_flip (l := q.flatten) (j := j) (by rw [hfl.len]; exact jl) (by rw [hfl.len]; omega) (fun e he Ψ h => by rcases he with rfl | rfl | rfl <;> exact de_var 8 rfl (.inl rfl) rfl h) (fun e he Ψ h => by rcases he with rfl | rfl | rfl <;> exact de_var 9 rfl (.inl rfl) rfl h) ?_
  refine da_cons ?_
  refine de_var 7 rfl (.inl rfl) rfl ?_
  refine da_nil ⟨_, _, n, rfl, .inl rfl, by rw [flip_len (by rw [hfl.len]; exact jl), hfl.len], by omega, ?_⟩
  generalize rowsOf (flipI q.flatten j) n = t at ht tne
  refine dss_cons (ds_appO 10 rfl (.inl rfl) rfl rfl (by show 1 < sizeLine; omega) ?_)
  refine de_SP T hr rfl ?_
  refine de_var 3 rfl (.inl rfl) rfl ?_
  refine de_var 11 rfl (.inl rfl) rfl ?_
  refine de_var 5 rfl (.inl rfl) rfl ?_
  refine de_var 6 rfl (.inl rfl) rfl ?_
  refine ⟨n, v, t, ws, qs, rfl, rfl, rfl, rfl, { k with hq := ht }, ?_⟩
  have u2 : Unl v q ws qs (SObj n v t ws qs) := unl_of fun _ e _ _ => tne e
  refine dss_norm ([.b .tape, .b (SObj n v q ws qs), .b (PSd n v q ws qs), .v (wd v), .v (sq q), .v (.tup (ws.map wd)), .v (.tup (qs.map sq)), .v (.int n), .v (wd q.flatten), .v (.int j), .ow [SObj n (flipI v 0) q ws qs, SObj n v t ws qs], .v (sq t), .no, .no]) rfl ?_
  -- the words changed
  refine dss_then (fun δ' => ∃ (l : List D) (z12 : Sl), δ' = [.b .tape, .b (SObj n v q ws qs), .b (PSd n v q ws qs), .v (wd v), .v (sq q), .v (.tup (ws.map wd)), .v (.tup (qs.map sq)), .v (.int n), .v (wd q.flatten), .v (.int j), .ow l, .v (sq t), z12, .no] ∧ oneO δ' 10 = true ∧ l.length ≤ 4 ∧ ∀ d ∈ l, Unl v q ws qs d) ?_ fun δ' ⟨l, z12, e, ho, hl, hu4⟩ => ?_
  · refine ds_if ?_
    refine dt_cmpO (op_neD hr.units) rfl ?_
    refine de_var 5 rfl (.inl rfl) rfl ?_
    refine de_tup (da_nil ⟨by walk_at "len", ?_⟩)
    refine od_ne 9 9 (wds_ok ws 7) (by rw [ok_tup]; rfl) (by omega) (isBl_of ⟨fun hb => ?_, fun hb => dss_nil ⟨_, .no, rfl, rfl, by show 2 ≤ 4; omega, all_c u1 (all_c u2 all_n)⟩⟩)
    obtain ⟨r, ws', rfl⟩ : ∃ r ws', ws = r :: ws' := by
      cases ws with
      | nil =>
        rw [List.map_nil, eqv_tt] at hb
        simp [pyL, PyData.eqvAll] at hb
      | cons r ws' => exact ⟨r, ws', rfl⟩
    have wr := k.hw r List.mem_cons_self
    refine dss_cons (ds_appO 10 rfl (.inl rfl) rfl rfl (by show 2 < sizeLine; omega) ?_)
    refine de_SP T hr rfl ?_
    refine de_var 3 rfl (.inl rfl) rfl ?_
    refine de_var 4 rfl (.inl rfl) rfl ?_
    refine de_rest ?_
    refine de_var 5 rfl (.inl rfl) rfl ⟨_, rfl, ?_⟩
    refine de_var 6 rfl (.inl rfl) rfl ?_
    refine ⟨n, v, q, ws', qs, rfl, rfl, rfl, rfl, { k with hw := fun x hx => k.hw x (List.mem_cons_of_mem _ hx), aw := (List.pairwise_cons.mp k.aw).2 }, ?_⟩
    have u3 : Unl v q (r :: ws') qs (SObj n v q ws' qs) := unl_of fun _ _ e _ => by
      have := congrArg List.length e
      rw [List.length_cons] at this
      omega
    refine dss_norm ([.b .tape, .b (SObj n v q (r :: ws') qs), .b (PSd n v q (r :: ws') qs), .v (wd v), .v (sq q), .v (.tup ((r :: ws').map wd)), .v (.tup (qs.map sq)), .v (.int n), .v (wd q.flatten), .v (.int j), .ow [SObj n (flipI v 0) q (r :: ws') qs, SObj n v t (r :: ws') qs, SObj n v q ws' qs], .v (sq t), .no, .no]) rfl ?_
    refine dss_cons (ds_set 12 sc.nd rfl (.inl rfl) ?_)
    refine de_flip0 (l := r) (by rw [wr.len]; omega) (by rw [wr.len]; omega) (fun e he Ψ h => by rcases he with rfl | rfl <;> exact de_ix (de_var 5 rfl (.inl rfl) rfl (de_int ⟨_, _, wd r, .inl rfl, rfl, atI_nat (by omega) rfl, h⟩))) ?_
    refine dss_norm ([.b .tape, .b (SObj n v q (r :: ws') qs), .b (PSd n v q (r :: ws') qs), .v (wd v), .v (sq q), .v (.tup ((r :: ws').map wd)), .v (.tup (qs.map sq)), .v (.int n), .v (wd q.flatten), .v (.int j), .ow [SObj n (flipI v 0) q (r :: ws') qs, SObj n v t (r :: ws') qs, SObj n v q ws' qs], .v (sq t), .v (wd (flipI r 0)), .no]) rfl ?_
    refine dss_one (ds_if ?_)
    refine dt_cmpO (op_eqD hr.units) rfl ?_
    refine de_len rfl (b_len T) ?_
    refine de_var 5 rfl (.inl rfl) rfl ⟨_, rfl, ?_⟩
    rw [List.length_map]
    refine de_int ?_
    refine od_eqII (isBl_of ⟨fun hb => ?_, fun hb => dss_nil ⟨_, _, rfl, rfl, by show 3 ≤ 4; omega, all_c u1 (all_c u2 (all_c u3 all_n))⟩⟩)
    have w0 : ws' = [] := by
      cases ws' with
      | nil => rfl
      | cons x y =>
        rw [List.length_cons, List.length_cons] at hb
        have := eq_of_beq hb
        omega
    subst w0
    have u5 : Unl v q [r] qs (SObj n v q [flipI r 0] qs) := unl_of fun _ _ e _ => flip_ne (by rw [wr.len]; omega) (List.cons.inj e).1
    refine dss_one (ds_appO 10 rfl (.inl rfl) rfl rfl (by show 3 < sizeLine; omega) ?_)
    refine de_SP T hr rfl ?_
    refine de_var 3 rfl (.inl rfl) rfl ?_
    refine de_var 4 rfl (.inl rfl) rfl ?_
    refine de_tup ?_
    refine da_cons ?_
    refine de_var 12 rfl (.inl rfl) rfl ?_
    refine da_nil ⟨by walk_at "len", ?_⟩
    refine de_var 6 rfl (.inl rfl) rfl ?_
    refine ⟨n, v, q, [flipI r 0], qs, rfl, rfl, rfl, rfl, { k with hw := fun x hx => (by rw [List.mem_singleton.mp hx]; exact flipW wr (by omega)), aw := List.pairwise_singleton _ _ }, ?_⟩
    exact ⟨_, _, rfl, rfl, by show 4 ≤ 4; omega, all_c u1 (all_c u2 (all_c u3 (all_c u5 all_n)))⟩
  subst e
  clear u1 u2
  -- the squares changed
  refine dss_then (fun δ' => ∃ (l : List D) (z12 : Sl), δ' = [.b .tape, .b (SObj n v q ws qs), .b (PSd n v q ws qs), .v (wd v), .v (sq q), .v (.tup (ws.map wd)), .v (.tup (qs.map sq)), .v (.int n), .v (wd q.flatten), .v (.int j), .ow l, .v (sq t), z12, .no] ∧ oneO δ' 10 = true ∧ l.length ≤ 6 ∧ ∀ d ∈ l, Unl v q ws qs d) ?_ fun δ' ⟨l, z12, e, ho, hl, hu4⟩ => ?_
  · refine ds_if ?_
    refine dt_cmpO (op_neD hr.units) rfl ?_
    refine de_var 6 rfl (.inl rfl) rfl ?_
    refine de_tup (da_nil ⟨by walk_at "len", ?_⟩)
    refine od_ne 9 9 (sqs_ok qs 6) (by rw [ok_tup]; rfl) (by omega) (isBl_of ⟨fun hb => ?_, fun hb => dss_nil ⟨l, z12, rfl, ho, by omega, hu4⟩⟩)
    have qn : qs ≠ [] := fun e => by
      rw [e, List.map_nil, eqv_tt] at hb
      simp [pyL, PyData.eqvAll] at hb
    have qpos : 0 < qs.length := List.length_pos_iff.mpr qn
    have u3 : Unl v q ws qs (SObj n v q ws qs.dropLast) := unl_of fun _ _ _ e => by
      have := congrArg List.length e
      rw [List.length_dropLast] at this
      omega
    refine dss_cons (ds_appO 10 rfl (.inl rfl) rfl ho (by omega) ?_)
    refine de_SP T hr rfl ?_
    refine de_var 3 rfl (.inl rfl) rfl ?_
    refine de_var 4 rfl (.inl rfl) rfl ?_
    refine de_var 5 rfl (.inl rfl) rfl ?_
    refine de_init ?_
    refine de_var 6 rfl (.inl rfl) rfl ⟨_, rfl, ?_⟩
    refine ⟨n, v, q, ws, qs.dropLast, rfl, rfl, rfl, by rw [List.map_dropLast], { k with hs := fun x hx => k.hs x ((List.dropLast_sublist _).subset hx), aq := by rw [List.map_dropLast]; exact k.aq.sublist (List.dropLast_sublist _) }, ?_⟩
    refine dss_one (ds_if ?_)
    refine dt_W ?_
    refine dw_and ?_
    refine dt_cmpO (op_notinU hr) rfl ?_
    refine de_var 11 rfl (.inl rfl) rfl ?_
    refine de_var 6 rfl (.inl rfl) rfl ?_
    refine od_notinT 9 9 (ok_sq t 7) (sqs_ok qs 6) (by omega) (isBl_of ⟨fun hb => ?_, fun hb => ⟨fun z => (by cases z), fun _ => dss_nil ⟨_, z12, rfl, ho, by rw [List.length_append, List.length_singleton]; omega, all_a hu4 (all_c u3 all_n)⟩⟩⟩)
    rw [any_sq, Bool.not_eq_true'] at hb
    refine dw_one_and ?_
    refine dt_cmpO (op_eqD hr.units) rfl ?_
    refine de_len rfl (b_len T) ?_
    refine de_var 6 rfl (.inl rfl) rfl ⟨_, rfl, ?_⟩
    refine de_int ?_
    refine od_eqII (isBl_of ⟨fun hb1 => ?_, fun hb1 => dss_nil ⟨_, z12, rfl, ho, by rw [List.length_append, List.length_singleton]; omega, all_a hu4 (all_c u3 all_n)⟩⟩)
    have u5 : Unl v q ws qs (SObj n v q ws [t]) := unl_of fun _ _ _ e => by
      rw [← e] at hb
      simp at hb
    refine dss_one (ds_appO 10 rfl (.inl rfl) rfl ho (by rw [List.length_append, List.length_singleton]; omega) ?_)
    refine de_SP T hr rfl ?_
    refine de_var 3 rfl (.inl rfl) rfl ?_
    refine de_var 4 rfl (.inl rfl) rfl ?_
    refine de_var 5 rfl (.inl rfl) rfl ?_
    refine de_tup ?_
    refine da_cons ?_
    refine de_var 11 rfl (.inl rfl) rfl ?_
    refine da_nil ⟨by walk_at "len", ?_⟩
    refine ⟨n, v, q, ws, [t], rfl, rfl, rfl, rfl, { k with hs := fun x hx => (by rw [List.mem_singleton.mp hx]; exact ht), aq := List.pairwise_singleton _ _ }, ?_⟩
    exact ⟨_, z12, rfl, ho, by rw [List.length_append, List.length_append, List.length_singleton, List.length_singleton]; omega, all_a (all_a hu4 (all_c u3 all_n)) (all_c u5 all_n)⟩
  subst e
  -- none is equal
  refine dss_thaw 10 rfl ho ?_
  refine dss_one (ds_ret ?_)
  refine de_cmpO (op_eqD hr.units) rfl ?_
  refine de_lcIf 13 rfl sc.nd rfl (show BlkOk Nun (defScope s_Lunlike_near) _ [("_law_other", 13)] from ⟨rfl, by decide +kernel, by decide +kernel, by decide +kernel, by decide +kernel⟩) (by walk_at "loc") (by walk_at "locf") ?_
  refine df_lst ?_
  refine de_var 10 rfl (.inl rfl) rfl ?_
  refine ⟨_, rfl, by omega, fun _ ds => ds = [], rfl, fun m y ds hy hd s0 H0 C cl fp => ?_, fun ds hd => ?_⟩
  · obtain ⟨hy1, hy2⟩ := hu4 y (List.mem_of_getElem? hy)
    refine dts_one (DT.imp (Φ := fun b => b = false) ?t fun b hb => ⟨fun h => (by rw [hb] at h; cases h), fun _ => hd⟩)
    case t =>
    refine dt_W ?_
    refine dw_or ?_
    refine dt_cmpK (op_eqOwn (ok_seq T) (k := 1) (hr.mono (by decide))) rfl ?_
    refine de_var 1 rfl (by walk_at "vis") rfl ?_
    refine de_var 13 rfl (by walk_at "vis") rfl ?_
    refine odt_S T (.inr hy1) fun r hq => ?_
    obtain rfl : r = false := Bool.eq_false_iff.mpr fun z => hy2 (hq.mp z)
    refine isBl_of ⟨fun z => (by cases z), fun _ => ?_⟩
    refine dw_one_or ?_
    refine dt_not ?_
    refine dt_cmpK (op_neOwn (ok_seq T) (k := 1) (hr.mono (by decide))) rfl ?_
    refine de_var 1 rfl (by walk_at "vis") rfl ?_
    refine de_var 13 rfl (by walk_at "vis") rfl ?_
    refine odt_S T (.inr hy1) fun r hq => ?_
    obtain rfl : r = false := Bool.eq_false_iff.mpr fun z => hy2 (hq.mp z)
    exact isBl_of rfl
  · subst hd
    refine de_lst (da_nil ⟨by walk_at "len", ?_⟩)
    refine od_eq 1 1 (by rw [ok_lst]; rfl) (by rw [ok_lst]; rfl) (by omega) ?_
    rw [eqv_ll]
    simp only [pyL, PyData.eqvAll]
    exact hΦ
end
end Fr
end
-- FrL14
section
set_option Elab.async false
set_option linter.all false
set_option maxRecDepth 100000
/-! The walks: papers by sums. -/
namespace Fr
open PySem PySem.Spec PyProof.Rows L2
-- macros
local macro_rules | `(tactic| walk_at "side") => `(tactic| first | assumption | omega | rfl | decide)
local macro_rules | `(tactic| walk_at "cm") => `(tactic| first | exact .inl ⟨by omega, by omega⟩ | exact .inr ⟨by omega, by omega⟩)
local macro_rules | `(tactic| walk_at "len") => `(tactic| first | decide | (show _ ≤ sizeLine; simp only [List.length_cons, List.length_nil]; decide))
local macro_rules | `(tactic| walk_at "add") => `(tactic| first | refine od_addI ?_ | refine od_addT (by walk_at "side") ?_ | refine od_addL (by walk_at "side") ?_)
local macro_rules | `(tactic| walk_at "mul") => `(tactic| first | refine od_mulI (by walk_at "cm") ?_ | refine od_mulT (by walk_at "side") (by walk_at "side") (by walk_at "side") ?_)
local macro_rules | `(tactic| walk_at "ok") => `(tactic| first | assumption | (simp only [D.ok, okL, Bool.and_true, Bool.true_and]; first | done | assumption | decide))
local macro_rules | `(tactic| walk_at "eq") => `(tactic| first | refine od_eqII ?_ | refine od_eq 20 20 (by walk_at "ok") (by walk_at "ok") (by omega) ?_)
local macro_rules | `(tactic| walk_at "ne") => `(tactic| first | refine od_neII ?_ | refine od_ne 20 20 (by walk_at "ok") (by walk_at "ok") (by omega) ?_)
local macro_rules | `(tactic| walk_at "slice") => `(tactic| first | refine .inl ⟨_, rfl, ?_⟩ | refine .inr ⟨_, rfl, ?_⟩)
local macro_rules | `(tactic| walk_at "vis") => `(tactic| first | exact .inl rfl | exact .inr (.inl rfl) | exact .inr (.inr rfl))
local macro_rules | `(tactic| walk_at "loc") => `(tactic| first | exact .inl rfl | exact .inr rfl)
local macro_rules | `(tactic| walk_at "locf") => `(tactic| first | exact .inr rfl | exact .inl rfl)
-- end macros
/-! ### what is told -/
theorem told_word {w q ws qs : D} (h : isSome w = false) : sumTold w q ws qs = .tup [.str "word", .int 0] := by
  have e : sumFault w q ws qs = some (("word" : Str), D.int 0) := by
    unfold sumFault
    rw [if_neg (by rw [h]; exact Bool.false_ne_true)]
  unfold sumTold
  rw [e]
section
variable {n : Nat} {v : List Int} {Q : List (List Int)} {ws : List (List Int)} {qs : List (List (List Int))}
theorem len_v (hv : WdI n v) : lenD (wd v) = (n : Int) := by rw [lenD_wd, hv.len]
theorem some_v (hv : WdI n v) (h1 : 1 ≤ n) (h12 : n ≤ 12) : isSome (wd v) = true := wd_some hv.bits (by rw [hv.len]; exact h1) (by rw [hv.len]; exact h12)
theorem told_square {q a b : D} (hv : WdI n v) (h1 : 1 ≤ n) (h12 : n ≤ 12) (h : isMat q n = false) : sumTold (wd v) q a b = .tup [.str "square", .int 0] := by
  have e : sumFault (wd v) q a b = some (("square" : Str), D.int 0) := by
    unfold sumFault
    rw [if_pos (some_v hv h1 h12), len_v hv, if_neg (by rw [h]; exact Bool.false_ne_true)]
  unfold sumTold
  rw [e]
theorem told_words {a b : D} {k : Int} (hv : WdI n v) (hQ : SqI n Q) (h1 : 1 ≤ n) (h12 : n ≤ 12) (h : ffD (fun d => isWord d n) a = .int k) : sumTold (wd v) (sq Q) a b = .tup [.str "words", .int k] := by
  have e : sumFault (wd v) (sq Q) a b = some (("words" : Str), D.int k) := by
    unfold sumFault
    rw [if_pos (some_v hv h1 h12), len_v hv, if_pos (sq_isMat hQ h1 h12), h]
  unfold sumTold
  rw [e]
theorem told_squares {b : D} {k : Int} (K : SPk n v Q ws qs) (h : ffD (fun d => isMat d n) b = .int k) : sumTold (wd v) (sq Q) (.tup (ws.map wd)) b = .tup [.str "squares", .int k] := by
  have e : sumFault (wd v) (sq Q) (.tup (ws.map wd)) b = some (("squares" : Str), D.int k) := by
    unfold sumFault
    rw [if_pos (some_v K.hv K.h1 K.h12), len_v K.hv, if_pos (sq_isMat K.hq K.h1 K.h12), ff_none (fits_w K.hw K.h1 K.h12) K.aw]
    show (match ffD (fun d => isMat d n) b with | .non => none | k => some (("squares" : Str), k)) = _
    rw [h]
  unfold sumTold
  rw [e]
end
theorem ok_ins {l : List D} {j : Nat} {b : D} (hl : ∀ d ∈ l, d.ok 8 = true) (hb : b.ok 8 = true) : (D.tup (l.take j ++ [b] ++ l.drop j)).ok 9 = true := by
  rw [ok_tup]
  exact okL_iff.mpr (all_a (all_a (fun d hd => hl d (List.mem_of_mem_take hd)) (all_c hb all_n)) fun d hd => hl d (List.mem_of_mem_drop hd))
theorem ins_ok {l : List D} {j : Nat} {b bad : D} (hl : ∀ d ∈ l, d.ok 8 = true) (hbad : bad.ok 8 = true) (h : b = bad ∨ 0 < j ∧ (l[j - 1]? = some b ∨ l[0]? = some b)) : b.ok 8 = true := by
  rcases h with rfl | ⟨_, h | h⟩
  · exact hbad
  · exact hl b (List.mem_of_getElem? h)
  · exact hl b (List.mem_of_getElem? h)
/-- no word at all -/
structure NoSm (d : D) : Prop where
  ok : d.ok 9 = true
  no : isSome d = false
theorem nosm_bits {d : D} (s : d.ok 9 = true) (h : isBits d = false) : NoSm d := ⟨s, by
  unfold isSome
  rw [h, Bool.false_and]⟩
theorem nosm_fl {d : D} (h : Fl d) (n : isBits d = false) : NoSm d := nosm_bits (D.ok_mono h.ok (by omega)) n
section
variable {P : Program} {w : World} {K : PySem.W.Frag} {mg : Str → Option Value} {base : Heap}
abbrev Nsr : List Str := ["_law_tape_here", "_law_n", "_law_paper", "_law_word_here", "_law_square_here", "_law_words", "_law_squares", "_law_made_here", "_law_told", "_law_bad", "_law_wrong", "_law_spoilt", "_law_at"]
def sp__law_sums_right : DSp := fun ds Φ _ => ds = [.tape] ∧ Φ (.bl true)
theorem sc__law_sums_right : FnScope Nsr ["_law_tape_here"] (defScope s_Lsums_right) := ⟨rfl, rfl, rfl, by decide +kernel, rfl, by decide +kernel, by decide +kernel⟩
set_option maxHeartbeats 4000000 in
theorem ok__law_sums_right (T : Tx K mg base) : CalG P w K mg base 17 "_law_sums_right" sp__law_sums_right := by
  refine calG_of T 49 rfl rfl sc__law_sums_right (fun _ _ _ _ _ _ us hl => match us, hl with | [_], _ => rfl) (fun ds Φ Ψ ⟨h, _⟩ => by rw [h] <;> rfl) fun cdv A outer s H E hcd hgd hr ds Φ Ψ h => ?_
  have sc := sc__law_sums_right
  have hu := u1_of hr
  have big := sizeBig
  obtain ⟨rfl, hΦ⟩ := h
  -- n
  refine dss_cons (ds_set 1 sc.nd rfl (.inl rfl) ?_)
  refine de_call (ok__law_pick T) (hr.mono (by decide)) rfl ?_
  refine da_cons ?_
  refine de_var 0 rfl (.inl rfl) rfl ?_
  refine da_cons ?_
  refine de_lst ?_
  refine da_cons ?_
  refine de_int ?_
  refine da_cons ?_
  refine de_int ?_
  refine da_cons ?_
  refine de_int ?_
  refine da_cons ?_
  refine de_int ?_
  refine da_cons ?_
  refine de_int ?_
  refine da_nil ⟨by walk_at "len", ?_⟩
  refine da_nil ⟨_, rfl, by simp, fun dn hdn => ?_⟩
  obtain ⟨n, rfl, h1, h12⟩ : ∃ n : Nat, dn = .int n ∧ 1 ≤ n ∧ n ≤ 12 := all_c (p := fun dn => ∃ n : Nat, dn = .int n ∧ 1 ≤ n ∧ n ≤ 12) ⟨1, rfl, by omega, by omega⟩ (all_c ⟨2, rfl, by omega, by omega⟩ (all_c ⟨3, rfl, by omega, by omega⟩ (all_c ⟨4, rfl, by omega, by omega⟩ (all_c ⟨12, rfl, by omega, by omega⟩ all_n)))) dn hdn
  clear hdn
  -- the paper
  refine dss_cons (ds_set 2 sc.nd rfl (.inl rfl) ?_)
  refine de_call (ok__law_sums_paper T) (hr.mono (by decide)) rfl ?_
  refine da_cons ?_
  refine de_var 0 rfl (.inl rfl) rfl ?_
  refine da_cons ?_
  refine de_var 1 rfl (.inl rfl) rfl ?_
  refine da_cons ?_
  refine de_call (ok__law_word T) (hr.mono (by decide)) rfl ?_
  refine da_cons ?_
  refine de_var 0 rfl (.inl rfl) rfl ?_
  refine da_cons ?_
  refine de_var 1 rfl (.inl rfl) rfl ?_
  refine da_nil ⟨n, rfl, by omega, fun v hv => ?_⟩
  refine da_nil ⟨n, v, rfl, hv, h1, h12, fun Q ws qs hQ hw hs aw aq lw lq => ?_⟩
  have k : SPk n v Q ws qs := ⟨h1, h12, hv, hQ, hw, hs, aw, aq⟩
  have okv := ok_wd v 8
  have okQ := ok_sq Q 7
  have okW := wds_ok ws 7
  have okS := sqs_ok qs 6
  have okn : D.non.ok 9 = true := by rw [D.ok]
  have lv : (v.map D.int).length = n := by rw [List.length_map, hv.len]
  have lQ : (Q.map wd).length = n := by rw [List.length_map, hQ.len]
  refine dss_cons (ds_asg4 3 4 5 6 rfl sc.nd rfl rfl rfl rfl (.inl rfl) (.inl rfl) (.inl rfl) (.inl rfl) ?_)
  refine de_tup ?_
  refine da_cons ?_
  refine de_dget hu ?_
  refine de_var 2 rfl (.inl rfl) rfl ?_
  refine de_str ?_
  refine ⟨_, _, _, rfl, rfl, rfl, ?_⟩
  refine da_cons ?_
  refine de_dget hu ?_
  refine de_var 2 rfl (.inl rfl) rfl ?_
  refine de_str ?_
  refine ⟨_, _, _, rfl, rfl, rfl, ?_⟩
  refine da_cons ?_
  refine de_dget hu ?_
  refine de_var 2 rfl (.inl rfl) rfl ?_
  refine de_str ?_
  refine ⟨_, _, _, rfl, rfl, rfl, ?_⟩
  refine da_cons ?_
  refine de_dget hu ?_
  refine de_var 2 rfl (.inl rfl) rfl ?_
  refine de_str ?_
  refine ⟨_, _, _, rfl, rfl, rfl, ?_⟩
  refine da_nil ⟨by walk_at "len", _, _, _, _, rfl, ?_⟩
  refine dss_norm [.b .tape, .v (.int n), .v (PSd n v Q ws qs), .v (wd v), .v (sq Q), .v (.tup (ws.map wd)), .v (.tup (qs.map sq)), .no, .no, .no, .no, .no, .no] rfl ?_
  -- the program's paper
  refine dss_cons (ds_set 7 sc.nd rfl (.inl rfl) ?_)
  refine de_call (ok__law_made T) (hr.mono (by decide)) rfl ?_
  refine da_cons ?_
  refine de_var 2 rfl (.inl rfl) rfl ?_
  refine da_nil ⟨n, v, Q, ws, qs, rfl, hv.len, k.fault, ?_⟩
  refine dss_cons (ds_set 8 sc.nd rfl (.inl rfl) ?_)
  refine de_tup ?_
  refine da_cons ?_
  refine de_fld (T.cls) ?_
  refine de_var 7 rfl (.inl rfl) rfl ?_
  refine ⟨1, _, .int n, rfl, no_n1 T, rfl, ?_⟩
  refine da_cons ?_
  refine de_fld (T.cls) ?_
  refine de_var 7 rfl (.inl rfl) rfl ?_
  refine ⟨1, _, wd v, rfl, no_word T, rfl, ?_⟩
  refine da_cons ?_
  refine de_fld (T.cls) ?_
  refine de_var 7 rfl (.inl rfl) rfl ?_
  refine ⟨1, _, sq Q, rfl, no_square T, rfl, ?_⟩
  refine da_cons ?_
  refine de_fld (T.cls) ?_
  refine de_var 7 rfl (.inl rfl) rfl ?_
  refine ⟨1, _, .tup (ws.map wd), rfl, no_words T, rfl, ?_⟩
  refine da_cons ?_
  refine de_fld (T.cls) ?_
  refine de_var 7 rfl (.inl rfl) rfl ?_
  refine ⟨1, _, .tup (qs.map sq), rfl, no_squares T, rfl, ?_⟩
  refine da_nil ⟨by walk_at "len", ?_⟩
  refine dss_norm [.b .tape, .v (.int n), .v (PSd n v Q ws qs), .v (wd v), .v (sq Q), .v (.tup (ws.map wd)), .v (.tup (qs.map sq)), .v (SObj n v Q ws qs), .v (.tup [.int n, wd v, sq Q, .tup (ws.map wd), .tup (qs.map sq)]), .no, .no, .no, .no] rfl ?_
  -- attributes, letters
  refine dss_cons (ds_if (DT.imp (Φ := fun b => b = false) ?t1 fun b hb => ⟨fun h => (by rw [hb] at h; cases h), fun _ => dss_nil ?g1⟩))
  case t1 =>
    have shv : ∀ {r : List Int}, WdI n r → Sh 1 123 (wd r) := fun {r} hr => sh_wd (k := 12) hr.bits (by rw [hr.len]; omega)
    have shq : ∀ {r : List (List Int)}, SqI n r → Sh 2 1600 (sq r) := fun {r} hr => sh_tup (k := 1) (m := 123) (fun d hd => by
      obtain ⟨x, hx, rfl⟩ := List.mem_map.mp hd
      exact shv (hr.rows x hx)) 1600 (by rw [List.length_map, hr.len]; omega)
    have shW : Sh 2 1600 (.tup (ws.map wd)) := sh_tup (k := 1) (m := 123) (fun d hd => by
      obtain ⟨x, hx, rfl⟩ := List.mem_map.mp hd
      exact shv (hw x hx)) 1600 (by rw [List.length_map]; omega)
    have shS : Sh 3 5000 (.tup (qs.map sq)) := sh_tup (k := 2) (m := 1600) (fun d hd => by
      obtain ⟨x, hx, rfl⟩ := List.mem_map.mp hd
      exact shq (hs x hx)) 5000 (by rw [List.length_map]; omega)
    have shw : Sh 4 30000 (.tup [.int n, wd v, sq Q, .tup (ws.map wd), .tup (qs.map sq)]) := sh_tup (k := 3) (m := 5000) (all_c ((fl_n h12).s.up (by omega) (by omega)) (all_c ((shv hv).up (by omega) (by omega)) (all_c ((shq hQ).up (by omega) (by omega)) (all_c (shW.up (by omega) (by omega)) (all_c (shS.up (by omega) (by omega)) all_n))))) 30000 (by show 5 * (5000 + 2) + 3 ≤ 30000; decide)
    have wb : wtD (.tup [.int n, wd v, sq Q, .tup (ws.map wd), .tup (qs.map sq)]) ≤ sizeLine := by have := shw.wt; omega
    refine dt_W ?_
    refine dw_or ?_
    refine dt_cmpO op_ne rfl ?_
    refine de_repr (guards_deeper hgd) hr.units rfl (b_repr T) ?_
    refine de_var 8 rfl (.inl rfl) rfl ⟨4, shw.ok, by omega, shw.sh, wb, ?_⟩
    refine de_repr (guards_deeper hgd) hr.units rfl (b_repr T) ?_
    refine de_tup ?_
    refine da_cons ?_
    refine de_var 1 rfl (.inl rfl) rfl ?_
    refine da_cons ?_
    refine de_var 3 rfl (.inl rfl) rfl ?_
    refine da_cons ?_
    refine de_var 4 rfl (.inl rfl) rfl ?_
    refine da_cons ?_
    refine de_var 5 rfl (.inl rfl) rfl ?_
    refine da_cons ?_
    refine de_var 6 rfl (.inl rfl) rfl ?_
    refine da_nil ⟨by walk_at "len", 4, shw.ok, by omega, shw.sh, wb, ?_⟩
    refine od_neS (isBl_of ⟨fun z => ?_, fun _ => ?_⟩)
    · rw [decide_eq_true rfl] at z
      cases z
    refine dw_one_or ?_
    refine dt_not ?_
    refine dt_val (by intro _; rfl) ?_
    refine de_callG (ok__law_is_paper T) (hr.mono (by decide)) (guards_deeper hgd) rfl ?_
    refine da_cons ?_
    refine de_var 0 rfl (.inl rfl) rfl ?_
    refine da_cons ?_
    refine de_var 7 rfl (.inl rfl) rfl ?_
    refine da_cons ?_
    refine de_var 2 rfl (.inl rfl) rfl ?_
    exact da_nil ⟨n, _, _, rfl, .s hv hQ hw hs aw aq lw lq, h1, h12, isBl_of rfl⟩
  case g1 =>
  -- equal to itself
  refine dss_cons (ds_if (DT.imp (Φ := fun b => b = false) ?t2 fun b hb => ⟨fun h => (by rw [hb] at h; cases h), fun _ => dss_nil ?g2⟩))
  case t2 =>
    have sot : SorT (SObj n v Q ws qs) := .inr ⟨n, v, Q, ws, qs, rfl⟩
    refine dt_W ?_
    refine dw_or ?_
    refine dt_cmpO op_notBl rfl ?_
    refine de_cmpK (op_eqOwn (ok_seq T) (k := 1) (hr.mono (by decide))) rfl ?_
    refine de_var 7 rfl (.inl rfl) rfl ?_
    refine de_call (ok__law_made T) (hr.mono (by decide)) rfl ?_
    refine da_cons ?_
    refine de_var 2 rfl (.inl rfl) rfl ?_
    refine da_nil ⟨n, v, Q, ws, qs, rfl, hv.len, k.fault, ?_⟩
    refine odt_S T sot fun r hq => ?_
    obtain rfl : r = true := hq.mpr ⟨n, rfl⟩
    refine de_bl ?_
    refine od_notB (isBl_of ⟨fun z => absurd z (by decide), fun _ => ?_⟩)
    refine dw_one_or ?_
    refine dt_cmpO op_notBl rfl ?_
    refine de_cmpK (op_neOwn (ok_seq T) (k := 1) (hr.mono (by decide))) rfl ?_
    refine de_var 7 rfl (.inl rfl) rfl ?_
    refine de_call (ok__law_made T) (hr.mono (by decide)) rfl ?_
    refine da_cons ?_
    refine de_var 2 rfl (.inl rfl) rfl ?_
    refine da_nil ⟨n, v, Q, ws, qs, rfl, hv.len, k.fault, ?_⟩
    refine odt_S T sot fun r hq => ?_
    obtain rfl : r = true := hq.mpr ⟨n, rfl⟩
    refine de_bl ?_
    exact od_notB (isBl_of (by decide))
  case g2 =>
  -- unlike others
  refine dss_cons (ds_if (DT.imp (Φ := fun b => b = false) ?t3 fun b hb => ⟨fun h => (by rw [hb] at h; cases h), fun _ => dss_nil ?g3⟩))
  case t3 =>
    refine dt_W ?_
    refine dw_or ?_
    refine dt_cmpO op_notBl rfl ?_
    refine de_cmpK (op_eqOwn (ok_seq T) (k := 1) (hr.mono (by decide))) rfl ?_
    refine de_var 7 rfl (.inl rfl) rfl ?_
    refine de_tup ?_
    refine da_cons ?_
    refine de_var 3 rfl (.inl rfl) rfl ?_
    refine da_cons ?_
    refine de_var 4 rfl (.inl rfl) rfl ?_
    refine da_nil ⟨by walk_at "len", ?_⟩
    refine odt_S T (.inl ⟨_, rfl⟩) fun r hq => ?_
    obtain rfl : r = false := Bool.eq_false_iff.mpr fun z => (by
      obtain ⟨_, e⟩ := hq.mp z
      cases e)
    refine de_bl ?_
    refine od_notB (isBl_of ⟨fun z => absurd z (by decide), fun _ => ?_⟩)
    refine dw_one_or ?_
    refine dt_not ?_
    refine dt_val (by intro _; rfl) ?_
    refine de_call (ok__law_unlike_near T) (hr.mono (by decide)) rfl ?_
    refine da_cons ?_
    refine de_var 0 rfl (.inl rfl) rfl ?_
    refine da_cons ?_
    refine de_var 7 rfl (.inl rfl) rfl ?_
    refine da_cons ?_
    refine de_var 2 rfl (.inl rfl) rfl ?_
    exact da_nil ⟨n, v, Q, ws, qs, rfl, k, lw, lq, isBl_of rfl⟩
  case g3 =>
  -- no word
  refine dss_cons (ds_set 9 sc.nd rfl (.inl rfl) ?_)
  refine de_call (ok__law_pick T) (hr.mono (by decide)) rfl ?_
  refine da_cons ?_
  refine de_var 0 rfl (.inl rfl) rfl ?_
  refine da_cons ?_
  refine de_lst ?_
  refine da_cons ?_
  refine de_tup (da_nil ⟨by walk_at "len", ?_⟩)
  refine da_cons ?_
  refine de_non ?_
  refine da_cons ?_
  refine de_int ?_
  refine da_cons ?_
  refine de_toL rfl (b_list T) ?_
  refine de_var 3 rfl (.inl rfl) rfl ⟨_, rfl, ?_⟩
  refine da_cons ?_
  refine de_more ?_
  refine de_init ?_
  refine de_var 3 rfl (.inl rfl) rfl ⟨_, rfl, _, rfl, by rw [List.length_dropLast]; omega, ?_⟩
  refine de_int ?_
  refine da_cons ?_
  refine de_op op_mulU ?_
  refine de_tup ?_
  refine da_cons ?_
  refine de_int ?_
  refine da_nil ⟨by walk_at "len", ?_⟩
  refine de_int ?_
  refine od_mulT (by simp) (by omega) (by decide) ?_
  refine da_cons ?_
  refine de_more ?_
  refine de_init ?_
  refine de_var 3 rfl (.inl rfl) rfl ⟨_, rfl, _, rfl, by rw [List.length_dropLast]; omega, ?_⟩
  refine de_bl ?_
  refine da_cons ?_
  refine de_str ?_
  refine da_nil ⟨by walk_at "len", ?_⟩
  refine da_nil ⟨_, rfl, by simp, fun bad hbad => ?_⟩
  rw [← List.map_dropLast] at hbad
  have nb : NoSm bad := all_c ⟨ok_fl all_n, rfl⟩ (all_c (nosm_fl fl_non rfl) (all_c (nosm_fl fl_5 rfl) (all_c (nosm_bits (now_lst hv h12).sm.ok9 rfl) (all_c (nosm_bits (now_end hv h12 fl_2 rfl).sm.ok9 (bits_more rfl)) (all_c ⟨by decide +kernel, by decide +kernel⟩ (all_c (nosm_bits (now_end hv h12 (fl_bl true) rfl).sm.ok9 (bits_more rfl)) (all_c (nosm_fl fl_0 rfl) all_n))))))) bad hbad
  clear hbad
  refine dss_norm [.b .tape, .v (.int n), .v (PSd n v Q ws qs), .v (wd v), .v (sq Q), .v (.tup (ws.map wd)), .v (.tup (qs.map sq)), .v (SObj n v Q ws qs), .v (.tup [.int n, wd v, sq Q, .tup (ws.map wd), .tup (qs.map sq)]), .v bad, .no, .no, .no] rfl ?_
  refine dss_cons (ds_if (DT.imp (Φ := fun b => b = false) ?t4 fun b hb => ⟨fun h => (by rw [hb] at h; cases h), fun _ => dss_nil ?g4⟩))
  case t4 =>
    refine dt_told (p := "word") (k := 0) hr.units (by decide +kernel) ?_
    refine de_call (ok__law_sums_refusal T) (hr.mono (by decide)) rfl ?_
    refine da_cons ?_
    refine de_var 9 rfl (.inl rfl) rfl ?_
    refine da_cons ?_
    refine de_var 4 rfl (.inl rfl) rfl ?_
    refine da_cons ?_
    refine de_var 5 rfl (.inl rfl) rfl ?_
    refine da_cons ?_
    refine de_non ?_
    refine da_nil ⟨_, _, _, _, rfl, nb.ok, okQ, okW, okn, ?_⟩
    rw [told_word nb.no]
    exact ⟨rfl, de_int ⟨rfl, rfl⟩⟩
  case g4 =>
  -- no square
  obtain ⟨r, er⟩ : ∃ r, Q.getLast? = some r := by
    cases q : Q.getLast? with
    | some r => exact ⟨r, rfl⟩
    | none =>
      have z := hQ.len
      rw [List.getLast?_eq_none_iff.mp q] at z
      exact absurd z (by show ¬ 0 = n; omega)
  have wr : WdI n r := hQ.rows r (List.mem_of_getLast? er)
  have rl : ∀ d ∈ Q.map wd, Rw d := rw_wds hQ.rows (by omega)
  have rd : ∀ d ∈ Q.dropLast.map wd, Rw d := rw_wds (fun r hr => hQ.rows r ((List.dropLast_sublist _).subset hr)) (by omega)
  have s1 : NoS n (.tup (Q.map wd ++ [wd v])) := nos_len (sm_tup (rw_more rl (rw_wd hv.bits (by rw [hv.len]; omega))) (by rw [List.length_append, lQ, List.length_singleton]; omega)) (by
    show ((((Q.map wd ++ [wd v]).length : Nat) : Int)) ≠ n
    rw [List.length_append, lQ, List.length_singleton]
    omega)
  have s2 : NoS n (.tup (Q.dropLast.map wd)) := nos_len (sm_tup rd (by rw [List.length_map, List.length_dropLast, hQ.len]; omega)) (by
    show ((((Q.dropLast.map wd).length : Nat) : Int)) ≠ n
    rw [List.length_map, List.length_dropLast, hQ.len]
    omega)
  have s3 : NoS n (.lst (Q.map wd)) := nos_tup (sm_lst rl (by rw [lQ]; omega)) rfl
  have w0 := now_more hv h12 (fl_bit (.inl rfl : bit 0))
  have r0 : Rw (.tup (v.map D.int ++ [.int 0])) := rw_tup (fl_more (fl_ints hv.bits) (fl_bit (.inl rfl))) (by rw [List.length_append, lv, List.length_singleton]; omega)
  have s4 : NoS n (.tup (Q.dropLast.map wd ++ [.tup (v.map D.int ++ [.int 0])])) := nos_row (sm_tup (rw_more rd r0) (by rw [List.length_append, List.length_map, List.length_dropLast, hQ.len, List.length_singleton]; omega)) w0.no
  have s5 : NoS n (.tup (v.map D.int ++ [.int 0])) := nos_len r0.sm (by
    show ((((v.map D.int ++ [D.int 0]).length : Nat) : Int)) ≠ n
    rw [List.length_append, lv, List.length_singleton]
    omega)
  refine dss_cons (ds_set 9 sc.nd rfl (.inl rfl) ?_)
  refine de_call (ok__law_pick T) (hr.mono (by decide)) rfl ?_
  refine da_cons ?_
  refine de_var 0 rfl (.inl rfl) rfl ?_
  refine da_cons ?_
  refine de_op op_addU ?_
  refine de_lst ?_
  refine da_cons ?_
  refine de_non ?_
  refine da_cons ?_
  refine de_init ?_
  refine de_var 4 rfl (.inl rfl) rfl ⟨_, rfl, ?_⟩
  refine da_cons ?_
  refine de_more ?_
  refine de_var 4 rfl (.inl rfl) rfl ⟨_, rfl, by omega, ?_⟩
  refine de_var 3 rfl (.inl rfl) rfl ?_
  refine da_cons ?_
  refine de_toL rfl (b_list T) ?_
  refine de_var 4 rfl (.inl rfl) rfl ⟨_, rfl, ?_⟩
  refine da_cons ?_
  refine de_more ?_
  refine de_init ?_
  refine de_var 4 rfl (.inl rfl) rfl ⟨_, rfl, _, rfl, by rw [List.length_dropLast]; omega, ?_⟩
  refine de_more ?_
  refine de_var 3 rfl (.inl rfl) rfl ⟨_, rfl, by omega, ?_⟩
  refine de_int ?_
  refine da_cons ?_
  refine de_int ?_
  refine da_nil ⟨by walk_at "len", ?_⟩
  refine de_call (ok__law_bad_rows T) (hr.mono (by decide)) rfl ?_
  refine da_cons ?_
  refine de_var 4 rfl (.inl rfl) rfl ?_
  refine da_nil ⟨Q, r, rfl, er, by rw [hQ.len]; omega, by rw [wr.len]; omega, ?_⟩
  refine od_addL (by rw [show (badSq Q r).length = 6 from rfl]; show 6 + 6 ≤ sizeLine; omega) ?_
  refine da_nil ⟨_, rfl, by simp, fun bad2 hbad2 => ?_⟩
  rw [← List.map_dropLast] at hbad2
  have nb2 : NoS n bad2 := all_a (all_c (nos_tup fl_non.sm rfl) (all_c s2 (all_c s1 (all_c s3 (all_c s4 (all_c (nos_tup fl_7.sm rfl) all_n)))))) (nos_bad hQ er h1 h12) bad2 hbad2
  clear hbad2
  refine dss_norm [.b .tape, .v (.int n), .v (PSd n v Q ws qs), .v (wd v), .v (sq Q), .v (.tup (ws.map wd)), .v (.tup (qs.map sq)), .v (SObj n v Q ws qs), .v (.tup [.int n, wd v, sq Q, .tup (ws.map wd), .tup (qs.map sq)]), .v bad2, .no, .no, .no] rfl ?_
  refine dss_cons (ds_if (DT.imp (Φ := fun b => b = false) ?t5 fun b hb => ⟨fun h => (by rw [hb] at h; cases h), fun _ => dss_nil ?g5⟩))
  case t5 =>
    refine dt_told (p := "square") (k := 0) hr.units (by decide +kernel) ?_
    refine de_call (ok__law_sums_refusal T) (hr.mono (by decide)) rfl ?_
    refine da_cons ?_
    refine de_var 3 rfl (.inl rfl) rfl ?_
    refine da_cons ?_
    refine de_var 9 rfl (.inl rfl) rfl ?_
    refine da_cons ?_
    refine de_non ?_
    refine da_cons ?_
    refine de_var 6 rfl (.inl rfl) rfl ?_
    refine da_nil ⟨_, _, _, _, rfl, okv, nb2.sm.ok9, okn, okS, ?_⟩
    rw [told_square hv h1 h12 nb2.no]
    exact ⟨rfl, de_int ⟨rfl, rfl⟩⟩
  case g5 =>
  -- words with one that is none
  refine dss_cons (ds_set 10 sc.nd rfl (.inl rfl) ?_)
  refine de_lst ?_
  refine da_cons ?_
  refine de_non ?_
  refine da_cons ?_
  refine de_more ?_
  refine de_var 3 rfl (.inl rfl) rfl ⟨_, rfl, by omega, ?_⟩
  refine de_int ?_
  refine da_cons ?_
  refine de_toL rfl (b_list T) ?_
  refine de_var 3 rfl (.inl rfl) rfl ⟨_, rfl, ?_⟩
  refine da_cons ?_
  refine de_int ?_
  refine da_cons ?_
  refine de_more ?_
  refine de_init ?_
  refine de_var 3 rfl (.inl rfl) rfl ⟨_, rfl, _, rfl, by rw [List.length_dropLast]; omega, ?_⟩
  refine de_int ?_
  refine da_cons ?_
  refine de_more ?_
  refine de_init ?_
  refine de_var 3 rfl (.inl rfl) rfl ⟨_, rfl, _, rfl, by rw [List.length_dropLast]; omega, ?_⟩
  refine de_bl ?_
  refine da_cons ?_
  refine de_less ?_
  refine de_bl ?_
  refine de_rest ?_
  refine de_var 3 rfl (.inl rfl) rfl ⟨_, rfl, _, rfl, by rw [List.length_drop]; omega, ?_⟩
  refine da_nil ⟨by walk_at "len", ?_⟩
  rw [← List.map_dropLast]
  have n7 : NoW n (.tup (.bl false :: (v.map D.int).drop 1)) := now_bits (rw_tup (all_c (fl_bl false) (fun d hd => fl_ints hv.bits d (List.mem_of_mem_drop hd))) (by rw [List.length_cons, List.length_drop, lv]; omega)).sm (bits_less rfl)
  have nw : ∀ d ∈ [D.non, .tup (v.map D.int ++ [.int 0]), .lst (v.map D.int), .int 3, .tup (v.dropLast.map D.int ++ [.int 2]), .tup (v.dropLast.map D.int ++ [.bl true]), .tup (.bl false :: (v.map D.int).drop 1)], NoW n d := all_c (now_bits fl_non.sm rfl) (all_c w0 (all_c (now_lst hv h12) (all_c (now_bits fl_3.sm rfl) (all_c (now_end hv h12 fl_2 rfl) (all_c (now_end hv h12 (fl_bl true) rfl) (all_c n7 all_n))))))
  generalize ewl : [D.non, .tup (v.map D.int ++ [.int 0]), .lst (v.map D.int), .int 3, .tup (v.dropLast.map D.int ++ [.int 2]), .tup (v.dropLast.map D.int ++ [.bl true]), .tup (.bl false :: (v.map D.int).drop 1)] = wl at nw
  have wl0 : wl ≠ [] := by rw [← ewl]; exact List.cons_ne_nil _ _
  clear ewl
  refine dss_norm [.b .tape, .v (.int n), .v (PSd n v Q ws qs), .v (wd v), .v (sq Q), .v (.tup (ws.map wd)), .v (.tup (qs.map sq)), .v (SObj n v Q ws qs), .v (.tup [.int n, wd v, sq Q, .tup (ws.map wd), .tup (qs.map sq)]), .v bad2, .v (.lst wl), .no, .no] rfl ?_
  refine dss_cons (ds_asg2 11 12 rfl sc.nd rfl rfl (.inl rfl) (.inl rfl) ?_)
  refine de_call (ok__law_wrong_row T) (hr.mono (by decide)) rfl ?_
  refine da_cons ?_
  refine de_var 0 rfl (.inl rfl) rfl ?_
  refine da_cons ?_
  refine de_var 5 rfl (.inl rfl) rfl ?_
  refine da_cons ?_
  refine de_call (ok__law_pick T) (hr.mono (by decide)) rfl ?_
  refine da_cons ?_
  refine de_var 0 rfl (.inl rfl) rfl ?_
  refine da_cons ?_
  refine de_var 10 rfl (.inl rfl) rfl ?_
  refine da_nil ⟨wl, rfl, wl0, fun bw hbw => ?_⟩
  have nbw := nw bw hbw
  refine da_nil ⟨_, _, rfl, by rw [List.length_map]; omega, fun j bx hj hbx => ⟨_, _, rfl, ?_⟩⟩
  have okw8 : ∀ d ∈ ws.map wd, d.ok 8 = true := fun d hd => by
    obtain ⟨r, _, rfl⟩ := List.mem_map.mp hd
    exact ok_wd r 7
  have fw := ff_at (fits_w hw h1 h12) aw hj (hbx.imp (fun e => by rw [e]; exact nbw.no) id)
  have okb := ok_ins (j := j) okw8 (ins_ok okw8 nbw.sm.ok hbx)
  refine dss_norm [.b .tape, .v (.int n), .v (PSd n v Q ws qs), .v (wd v), .v (sq Q), .v (.tup (ws.map wd)), .v (.tup (qs.map sq)), .v (SObj n v Q ws qs), .v (.tup [.int n, wd v, sq Q, .tup (ws.map wd), .tup (qs.map sq)]), .v bad2, .v (.lst wl), .v (.tup ((ws.map wd).take j ++ [bx] ++ (ws.map wd).drop j)), .v (.int j)] rfl ?_
  refine dss_cons (ds_if (DT.imp (Φ := fun b => b = false) ?t6 fun b hb => ⟨fun h => (by rw [hb] at h; cases h), fun _ => dss_nil ?g6⟩))
  case t6 =>
    refine dt_told (p := "words") (k := j) hr.units (by decide +kernel) ?_
    refine de_call (ok__law_sums_refusal T) (hr.mono (by decide)) rfl ?_
    refine da_cons ?_
    refine de_var 3 rfl (.inl rfl) rfl ?_
    refine da_cons ?_
    refine de_var 4 rfl (.inl rfl) rfl ?_
    refine da_cons ?_
    refine de_var 11 rfl (.inl rfl) rfl ?_
    refine da_cons ?_
    refine de_non ?_
    refine da_nil ⟨_, _, _, _, rfl, okv, okQ, okb, okn, ?_⟩
    rw [told_words hv hQ h1 h12 fw]
    exact ⟨rfl, de_var 12 rfl (.inl rfl) rfl ⟨rfl, rfl⟩⟩
  case g6 =>
  -- no words
  refine dss_cons (ds_if (DT.imp (Φ := fun b => b = false) ?t7 fun b hb => ⟨fun h => (by rw [hb] at h; cases h), fun _ => dss_nil ?g7⟩))
  case t7 =>
    refine dt_told (p := "words") (k := 0) hr.units (by decide +kernel) ?_
    refine de_call (ok__law_sums_refusal T) (hr.mono (by decide)) rfl ?_
    refine da_cons ?_
    refine de_var 3 rfl (.inl rfl) rfl ?_
    refine da_cons ?_
    refine de_var 4 rfl (.inl rfl) rfl ?_
    refine da_cons ?_
    refine de_call (ok__law_pick T) (hr.mono (by decide)) rfl ?_
    refine da_cons ?_
    refine de_var 0 rfl (.inl rfl) rfl ?_
    refine da_cons ?_
    refine de_lst ?_
    refine da_cons ?_
    refine de_toL rfl (b_list T) ?_
    refine de_var 5 rfl (.inl rfl) rfl ⟨_, rfl, ?_⟩
    refine da_cons ?_
    refine de_non ?_
    refine da_cons ?_
    refine de_int ?_
    refine da_nil ⟨by walk_at "len", ?_⟩
    refine da_nil ⟨_, rfl, by simp, fun bad3 hbad3 => ?_⟩
    have nb3 : bad3.ok 9 = true ∧ ffD (fun d => isWord d n) bad3 = .int 0 := all_c (p := fun bad3 => bad3.ok 9 = true ∧ ffD (fun d => isWord d n) bad3 = .int 0) ⟨by rw [ok_lst]; exact okL_iff.mpr okw8, rfl⟩ (all_c ⟨okn, rfl⟩ (all_c ⟨by rw [D.ok], rfl⟩ all_n)) bad3 hbad3
    refine da_cons ?_
    refine de_var 6 rfl (.inl rfl) rfl ?_
    refine da_nil ⟨_, _, _, _, rfl, okv, okQ, nb3.1, okS, ?_⟩
    rw [told_words hv hQ h1 h12 nb3.2]
    exact ⟨rfl, de_int ⟨rfl, rfl⟩⟩
  case g7 =>
  -- squares with one that is none
  refine dss_cons (ds_set 10 sc.nd rfl (.inl rfl) ?_)
  refine de_op op_addU ?_
  refine de_lst ?_
  refine da_cons ?_
  refine de_non ?_
  refine da_cons ?_
  refine de_more ?_
  refine de_var 4 rfl (.inl rfl) rfl ⟨_, rfl, by omega, ?_⟩
  refine de_var 3 rfl (.inl rfl) rfl ?_
  refine da_cons ?_
  refine de_toL rfl (b_list T) ?_
  refine de_var 4 rfl (.inl rfl) rfl ⟨_, rfl, ?_⟩
  refine da_cons ?_
  refine de_int ?_
  refine da_cons ?_
  refine de_more ?_
  refine de_var 3 rfl (.inl rfl) rfl ⟨_, rfl, by omega, ?_⟩
  refine de_int ?_
  refine da_nil ⟨by walk_at "len", ?_⟩
  refine de_call (ok__law_bad_rows T) (hr.mono (by decide)) rfl ?_
  refine da_cons ?_
  refine de_var 4 rfl (.inl rfl) rfl ?_
  refine da_nil ⟨Q, r, rfl, er, by rw [hQ.len]; omega, by rw [wr.len]; omega, ?_⟩
  refine od_addL (by rw [show (badSq Q r).length = 6 from rfl]; show 5 + 6 ≤ sizeLine; omega) ?_
  have ns : ∀ d ∈ [D.non, .tup (Q.map wd ++ [wd v]), .lst (Q.map wd), .int 3, .tup (v.map D.int ++ [.int 0])] ++ badSq Q r, NoS n d := all_a (all_c (nos_tup fl_non.sm rfl) (all_c s1 (all_c s3 (all_c (nos_tup fl_3.sm rfl) (all_c s5 all_n))))) (nos_bad hQ er h1 h12)
  generalize esl : [D.non, .tup (Q.map wd ++ [wd v]), .lst (Q.map wd), .int 3, .tup (v.map D.int ++ [.int 0])] ++ badSq Q r = sl at ns
  have sl0 : sl ≠ [] := by rw [← esl]; exact List.cons_ne_nil _ _
  clear esl
  refine dss_norm [.b .tape, .v (.int n), .v (PSd n v Q ws qs), .v (wd v), .v (sq Q), .v (.tup (ws.map wd)), .v (.tup (qs.map sq)), .v (SObj n v Q ws qs), .v (.tup [.int n, wd v, sq Q, .tup (ws.map wd), .tup (qs.map sq)]), .v bad2, .v (.lst sl), .v (.tup ((ws.map wd).take j ++ [bx] ++ (ws.map wd).drop j)), .v (.int j)] rfl ?_
  refine dss_cons (ds_asg2 11 12 rfl sc.nd rfl rfl (.inl rfl) (.inl rfl) ?_)
  refine de_call (ok__law_wrong_row T) (hr.mono (by decide)) rfl ?_
  refine da_cons ?_
  refine de_var 0 rfl (.inl rfl) rfl ?_
  refine da_cons ?_
  refine de_var 6 rfl (.inl rfl) rfl ?_
  refine da_cons ?_
  refine de_call (ok__law_pick T) (hr.mono (by decide)) rfl ?_
  refine da_cons ?_
  refine de_var 0 rfl (.inl rfl) rfl ?_
  refine da_cons ?_
  refine de_var 10 rfl (.inl rfl) rfl ?_
  refine da_nil ⟨sl, rfl, sl0, fun bs hbs => ?_⟩
  have nbs := ns bs hbs
  refine da_nil ⟨_, _, rfl, by rw [List.length_map]; omega, fun j2 b2 hj2 hb2 => ⟨_, _, rfl, ?_⟩⟩
  have oks8 : ∀ d ∈ qs.map sq, d.ok 8 = true := fun d hd => by
    obtain ⟨r, _, rfl⟩ := List.mem_map.mp hd
    exact ok_sq r 6
  have fs := ff_at (fits_s hs h1 h12) aq hj2 (hb2.imp (fun e => by rw [e]; exact nbs.no) id)
  have okb2 := ok_ins (j := j2) oks8 (ins_ok oks8 nbs.sm.ok hb2)
  refine dss_norm [.b .tape, .v (.int n), .v (PSd n v Q ws qs), .v (wd v), .v (sq Q), .v (.tup (ws.map wd)), .v (.tup (qs.map sq)), .v (SObj n v Q ws qs), .v (.tup [.int n, wd v, sq Q, .tup (ws.map wd), .tup (qs.map sq)]), .v bad2, .v (.lst sl), .v (.tup ((qs.map sq).take j2 ++ [b2] ++ (qs.map sq).drop j2)), .v (.int j2)] rfl ?_
  refine dss_cons (ds_if (DT.imp (Φ := fun b => b = false) ?t8 fun b hb => ⟨fun h => (by rw [hb] at h; cases h), fun _ => dss_nil ?g8⟩))
  case t8 =>
    refine dt_told (p := "squares") (k := j2) hr.units (by decide +kernel) ?_
    refine de_call (ok__law_sums_refusal T) (hr.mono (by decide)) rfl ?_
    refine da_cons ?_
    refine de_var 3 rfl (.inl rfl) rfl ?_
    refine da_cons ?_
    refine de_var 4 rfl (.inl rfl) rfl ?_
    refine da_cons ?_
    refine de_var 5 rfl (.inl rfl) rfl ?_
    refine da_cons ?_
    refine de_var 11 rfl (.inl rfl) rfl ?_
    refine da_nil ⟨_, _, _, _, rfl, okv, okQ, okW, okb2, ?_⟩
    rw [told_squares k fs]
    exact ⟨rfl, de_var 12 rfl (.inl rfl) rfl ⟨rfl, rfl⟩⟩
  case g8 =>
  -- no squares
  refine dss_one (ds_ret ?_)
  refine de_told (p := "squares") (k := 0) hr.units (by decide +kernel) ?_
  refine de_call (ok__law_sums_refusal T) (hr.mono (by decide)) rfl ?_
  refine da_cons ?_
  refine de_var 3 rfl (.inl rfl) rfl ?_
  refine da_cons ?_
  refine de_var 4 rfl (.inl rfl) rfl ?_
  refine da_cons ?_
  refine de_var 5 rfl (.inl rfl) rfl ?_
  refine da_cons ?_
  refine de_call (ok__law_pick T) (hr.mono (by decide)) rfl ?_
  refine da_cons ?_
  refine de_var 0 rfl (.inl rfl) rfl ?_
  refine da_cons ?_
  refine de_lst ?_
  refine da_cons ?_
  refine de_toL rfl (b_list T) ?_
  refine de_var 6 rfl (.inl rfl) rfl ⟨_, rfl, ?_⟩
  refine da_cons ?_
  refine de_non ?_
  refine da_cons ?_
  refine de_int ?_
  refine da_nil ⟨by walk_at "len", ?_⟩
  refine da_nil ⟨_, rfl, by simp, fun bad4 hbad4 => ?_⟩
  have nb4 : bad4.ok 9 = true ∧ ffD (fun d => isMat d n) bad4 = .int 0 := all_c (p := fun bad4 => bad4.ok 9 = true ∧ ffD (fun d => isMat d n) bad4 = .int 0) ⟨by rw [ok_lst]; exact okL_iff.mpr oks8, rfl⟩ (all_c ⟨okn, rfl⟩ (all_c ⟨by rw [D.ok], rfl⟩ all_n)) bad4 hbad4
  refine da_nil ⟨_, _, _, _, rfl, okv, okQ, okW, nb4.1, ?_⟩
  rw [told_squares k nb4.2]
  exact ⟨rfl, de_int ⟨rfl, hΦ⟩⟩
end
end Fr
end
-- FrLaw
section
set_option Elab.async false
set_option linter.all false
set_option maxRecDepth 100000
/-! The law's own def; where it starts from. -/
namespace Fr
open PySem PySem.Spec PyProof.Rows L2
section
variable {P : Program} {w : World} {K : PySem.W.Frag} {mg : Str → Option Value} {base : Heap}
def sp_law : DSp := fun ds Φ _ => ∃ cs : List Int, ds = [.scr cs] ∧ Φ (.bl true)
theorem sc_law : FnScope ["_law_script", "_law_tape_here"] ["_law_script"] (defScope s_law) := ⟨rfl, rfl, rfl, by decide +kernel, rfl, by decide +kernel, by decide +kernel⟩
theorem ok_law (T : Tx K mg base) : CalG P w K mg base 18 "law" sp_law := by
  refine calG_of T 50 rfl rfl sc_law (fun _ _ _ _ _ _ us hl => match us, hl with | [_], _ => rfl) (fun ds Φ Ψ ⟨_, h, _⟩ => by rw [h] <;> rfl) fun cdv A outer s H E hcd hgd hr ds Φ Ψ h => ?_
  have sc := sc_law
  obtain ⟨cs, rfl, hΦ⟩ := h
  refine dss_cons (ds_set 1 sc.nd rfl (.inl rfl) ?_)
  refine de_call (ok__law_tape T) (hr.mono (by decide)) rfl ?_
  refine da_cons ?_
  refine de_var 0 rfl (.inl rfl) rfl ?_
  refine da_nil ⟨cs, rfl, ?_⟩
  refine dss_one (ds_ret ?_)
  refine de_and ?_
  refine de_callG (ok__law_table_right T) hr (guards_deeper hgd) rfl ?_
  refine da_cons ?_
  refine de_var 1 rfl (.inl rfl) rfl ?_
  refine da_nil ⟨rfl, _, rfl, fun _ => ?_, fun z => (by cases z)⟩
  refine de_one ?_
  refine de_callG (ok__law_sums_right T) hr (guards_deeper hgd) rfl ?_
  refine da_cons ?_
  refine de_var 1 rfl (.inl rfl) rfl ?_
  exact da_nil ⟨rfl, hΦ⟩
end
/-! ### behind the head -/
abbrev noneO : Obj := { cls := .none, data := .fields #[] }
abbrev scrO (vs : List Value) : Obj := { cls := .type "list", data := .seq vs.toArray }
/-- what is tracked where the law is called: the defs' tables, the script where it is none of the module's own objects -/
def hd0 (K : PySem.W.Frag) (ts : List Addr) (a : Addr) (o : Obj) (xs : List V) : Hp := fun b =>
  if b ∈ ts then some (.tbl #[]) else if b = a ∧ (K.lookup a).isNone = true then some (.frz o (.lst xs)) else none
section
variable {K : PySem.W.Frag} {ts : List Addr} {a b : Addr} {o : Obj} {xs : List V}
theorem hd0_t (h : b ∈ ts) : hd0 K ts a o xs b = some (.tbl #[]) := if_pos h
theorem hd0_cases {u : HO} (e : hd0 K ts a o xs b = some u) : (b ∈ ts ∧ u = .tbl #[]) ∨ (b = a ∧ K.lookup a = none ∧ u = .frz o (.lst xs)) := by
  unfold hd0 at e
  by_cases h : b ∈ ts
  · rw [if_pos h] at e
    exact .inl ⟨h, (Option.some.inj e).symm⟩
  · rw [if_neg h] at e
    by_cases h2 : b = a ∧ (K.lookup a).isNone = true
    · rw [if_pos h2] at e
      exact .inr ⟨h2.1, Option.isNone_iff_eq_none.mp h2.2, (Option.some.inj e).symm⟩
    · rw [if_neg h2] at e
      cases e
theorem hd0_off (h : ∀ u, hd0 K ts a o xs b = some u → False) : hd0 K ts a o xs b = none := by
  cases q : hd0 K ts a o xs b with
  | none => rfl
  | some u => exact (h u q).elim
end
/-- the head's heap, as the law finds it -/
structure Found (K : PySem.W.Frag) (mg mb : Str → Option Value) (cs : List (Addr × Addr)) (a : Addr) (vs : List Value) (xs : List V) (s : Shared) : Prop where
  kin : K.In s.heap
  g : s.heap.Ns mainGlobals mg
  b : s.heap.Ns builtinsNs mb
  bb : ∀ x : Str, x ≠ "__name__" → mb x = bootBuiltins x
  lim : s.heap.NoLimit
  gens : s.gens = #[]
  bm : ∃ (p : Addr) (o : Obj), mg "__builtins__" = some (.ref p) ∧ p ≠ builtinsNs ∧ s.heap.get? p = some o ∧ o.cls = .type "module" ∧ o.dict = some builtinsNs ∧ o.data = .plain
  hd : ∀ p ∈ cs, PySem.W.codeHdIn K p.1 p.2 = true
  out : ∀ p ∈ cs, K.lookup p.2 = none
  tab : ∀ p ∈ cs, s.heap.get? p.2 = some noneO
  scr : s.heap.get? a = some (scrO vs)
  vals : Vals xs vs
  most : xs.length ≤ sizeLine
section
variable {P : Program} {w : World} {K : PySem.W.Frag} {mg mb : Str → Option Value} {cs : List (Addr × Addr)} {a : Addr} {vs : List Value} {xs : List V} {s : Shared}
abbrev hdF (K : PySem.W.Frag) (cs : List (Addr × Addr)) (a : Addr) (vs : List Value) (xs : List V) : Hp := hd0 K (cs.map (·.2)) a (scrO vs) xs
abbrev bsF (K : PySem.W.Frag) (cs : List (Addr × Addr)) (a : Addr) (vs : List Value) (xs : List V) (s : Shared) : Heap := hidT s.heap (hdF K cs a vs xs)
theorem Found.at_ (F : Found K mg mb cs a vs xs s) {b : Addr} (h : b ∈ cs.map (·.2)) : ∃ p ∈ cs, p.2 = b := List.mem_map.mp h
theorem Found.hok (F : Found K mg mb cs a vs xs s) : HOk P w (hdF K cs a vs xs) s.heap := fun b u e => by
  rcases hd0_cases e with ⟨hb, rfl⟩ | ⟨rfl, _, rfl⟩
  · obtain ⟨p, hp, rfl⟩ := F.at_ hb
    exact F.tab p hp
  · exact ⟨F.scr, F.most, vs, _, F.vals, F.scr⟩
/-- what is neither a list nor an empty table is not tracked -/
theorem Found.off (F : Found K mg mb cs a vs xs s) {b : Addr} {o : Obj} (e : s.heap.get? b = some o) (n1 : ∀ v n, o.data ≠ .seq v n) (n2 : o.data ≠ .fields #[]) : hdF K cs a vs xs b = none := hd0_off fun u q => by
  rcases hd0_cases q with ⟨hb, _⟩ | ⟨rfl, _, _⟩
  · obtain ⟨p, hp, rfl⟩ := F.at_ hb
    rw [F.tab p hp] at e
    cases e
    exact n2 rfl
  · rw [F.scr] at e
    cases e
    exact n1 _ _ rfl
theorem Found.base (F : Found K mg mb cs a vs xs s) {b : Addr} {o : Obj} (e : s.heap.get? b = some o) (n1 : ∀ v n, o.data ≠ .seq v n) (n2 : o.data ≠ .fields #[]) : (bsF K cs a vs xs s).get? b = some o := hidT_get e (F.off e n1 n2)
theorem Found.names (F : Found K mg mb cs a vs xs s) {p : Addr} {m : Str → Option Value} : s.heap.Ns p m → (bsF K cs a vs xs s).Ns p m := fun ⟨o, es, ep, e, d, r⟩ =>
  ⟨o, es, ep, F.base e (fun v n z => by rw [d] at z; cases z) (fun z => by rw [d] at z; cases z), d, r⟩
theorem Found.kb (F : Found K mg mb cs a vs xs s) : K.In (bsF K cs a vs xs s) := fun b o e => hidT_get (F.kin b o e) (hd0_off fun u q => by
  rcases hd0_cases q with ⟨hb, _⟩ | ⟨rfl, n, _⟩
  · obtain ⟨p, hp, rfl⟩ := F.at_ hb
    rw [F.out p hp] at e
    cases e
  · rw [n] at e
    cases e)
theorem Found.env (F : Found K mg mb cs a vs xs s) : Env0 P w K mg (bsF K cs a vs xs s) callerA [] s (hdF K cs a vs xs) where
  frames := rfl
  mod := ⟨F.kb, F.names F.g, ⟨mb, F.names F.b, F.bb⟩, (let ⟨mc, h1, h2⟩ := F.lim; ⟨mc, F.names h1, h2⟩)⟩
  bs := fun b o e => of_hidT e
  bsz := Nat.le_of_eq (hidT_size _ _)
  funs := trivial
  frf := fun b hb => by cases hb
  hok := F.hok
  bare := .of_eq F.gens
theorem Found.code (F : Found K mg mb cs a vs xs s) {p : Addr × Addr} (hp : p ∈ cs) : LamX.TabB (bsF K cs a vs xs s) mg p.1 p.2 := by
  obtain ⟨q, o, e1, e2, e3, e4, e5, e6⟩ := F.bm
  obtain ⟨og, es, ep, g1, g2, _⟩ := F.g
  refine ⟨PySem.W.codeHd_of_K F.kb (F.hd p hp), ⟨q, o, e1, e2, fun z => ?_, fun z => ?_, F.base e3 (fun v n z => by rw [e6] at z; cases z) (fun z => by rw [e6] at z; cases z), e4, e5, e6⟩, fun z => ?_⟩
  · rw [z, g1] at e3
    cases e3
    rw [g2] at e6
    cases e6
  · rw [z, F.tab p hp] at e3
    cases e3
    cases e6
  · rw [z, F.tab p hp] at g1
    cases g1
    cases g2
theorem Found.seq (F : Found K mg mb cs a vs xs s) : SqL K (hdF K cs a vs xs) a xs := by
  cases q : K.lookup a with
  | none =>
    by_cases h : a ∈ cs.map (·.2)
    · obtain ⟨p, hp, e⟩ := F.at_ h
      have t := F.tab p hp
      rw [e, F.scr] at t
      have z : Data.seq vs.toArray _ = Data.fields #[] := congrArg Obj.data (Option.some.inj t)
      cases z
    · refine .inl (.inr ⟨scrO vs, ?_⟩)
      show (if a ∈ cs.map (·.2) then _ else _) = _
      rw [if_neg h, if_pos ⟨rfl, by rw [q]; rfl⟩]
  | some o =>
    have e := F.kin a o q
    rw [F.scr] at e
    cases e
    exact .inr ⟨_, vs.toArray, _, q, rfl, rfl, rfl, by rw [List.size_toArray, ← F.vals.length]; exact F.most, by simpa using F.vals⟩
/-- what a call that gives True leaves -/
theorem Found.ends (F : Found K mg mb cs a vs xs s) {r : Result} {s' : Shared} (h : CR (L2.CX P w) [] P w (hdF K cs a vs xs) s (fun v _ => v = .bl true) E0 r s') : r = .ok (.ret (.bool true)) ∧ OldK s.heap s'.heap ∧ s'.os = s.os ∧ AllBare s'.gens := by
  match r, h with
  | .error z, h =>
    obtain ⟨_, _, _, _, _, _, _, _, _, _, _, _, no⟩ := h
    exact no.elim
  | .ok (.ret u), h =>
    obtain ⟨v, H', os, bare, un, hok, rv, rfl⟩ := h
    have eu : u = Value.bool true := rv
    subst eu
    have old : ∀ b o, s.heap.get? b = some o → asItWas s.heap s'.heap b o ∧ ∃ o', s'.heap.get? b = some o' := fun b o e => by
      cases q : hdF K cs a vs xs b with
      | none =>
        have k := un.keep b o e q (fun z => by cases z) (fun z => by cases z)
        exact ⟨.inl k, o, k⟩
      | some y =>
        rcases hd0_cases q with ⟨hb, rfl⟩ | ⟨rfl, _, rfl⟩
        · obtain ⟨p, hp, rfl⟩ := F.at_ hb
          have t := F.tab p hp
          obtain ⟨more, z⟩ := un.tbls p.2 #[] q
          have e2 : s'.heap.get? p.2 = some { cls := .none, data := .fields (#[] ++ more) } := hok p.2 _ z
          rw [t] at e
          cases e
          exact ⟨.inr (.inl ⟨((PySem.W.codeHd_of_K F.kin (F.hd p hp)).tab t).isCodeTable, rfl, #[], more, rfl, e2⟩), _, e2⟩
        · have z := hok b _ (un.frzs b _ _ q)
          rw [F.scr] at e
          cases e
          exact ⟨.inl z.1, _, z.1⟩
    exact ⟨rfl, ⟨fun b o e => (old b o e).1, fun b o e => (old b o e).2⟩, os, bare⟩
end
end Fr
end
-- FrEnd
set_option Elab.async false
set_option linter.all false
set_option maxRecDepth 100000
/-! The end. -/
namespace Fr
open PySem PySem.Spec PyProof.Rows L2
theorem gl_of {K : PySem.W.Frag} {h : Heap} {mg : Str → Option Value} {x : Str} {u : Option Value} (X : K.In h) (G : h.Ns mainGlobals mg) (e : PySem.W.nsIn K mainGlobals x = some u) : mg x = u := by
  cases u with
  | none => exact PySem.W.mg_none_of X G e
  | some v => exact PySem.W.mg_of X G e
abbrev csF (K : PySem.W.Frag) : List (Addr × Addr) := tf.map (He.cT K)
theorem tabs_of {K : PySem.W.Frag} {H : Hp} (h : ∀ p ∈ csF K, H p.2 = some (.tbl #[])) : Tabs K H := by
  refine ⟨fun q hq => ?_, #[], h _ (List.mem_map.mpr ⟨("SumsPaper", some "__init__"), by decide +kernel, rfl⟩), trivial, fun pos cv e => ?_⟩
  · obtain ⟨p, hp, rfl⟩ := List.mem_map.mp hq
    exact ⟨#[], h _ (List.mem_map.mpr ⟨p, List.mem_of_mem_take hp, rfl⟩), trivial⟩
  · cases e
theorem law_true {w : World} {K : PySem.W.Frag} {mg mb : Str → Option Value} {a f : Addr} {vs : List Value} {ns : List Int} {s : Shared} (hm : moreB K = true) (hd : He.SaysD fa fn K) (F : Found K mg mb (csF K) a vs (ns.map V.int) s) (hf : mg "law" = some (.ref f)) :
    codeAny (model PySem.Challenge.rw_fourread_k32_papers.prog w) callerA (.call (.ref f) ⟨[.ref a], []⟩) (fun r s' => r = .ok (.ret (.bool true)) ∧ OldK s.heap s'.heap ∧ s'.os = s.os ∧ AllBare s'.gens) s := by
  have T : Tx K mg (bsF K (csF K) a vs (ns.map V.int) s) := ⟨hd, hm, fun x u e => gl_of F.kin F.g e, fun p hp => F.code (List.mem_map.mpr ⟨p, hp, rfl⟩)⟩
  have C := ok_law (P := PySem.Challenge.rw_fourread_k32_papers.prog) (w := w) T
  have ef : He.ga K "law" = f := by
    have e := C.gl
    rw [hf] at e
    exact (Value.ref.inj (Option.some.inj e)).symm
  have run := C.run callerA [] s (hdF K (csF K) a vs (ns.map V.int)) [.ref a] [.ref a] (fun v _ => v = .bl true) ⟨rfl, by decide, by decide⟩ rfl F.env (.cons rfl .nil)
    ⟨[.scr ns], fun d => d = .bl true, no2, .cons (.scr F.seq) .nil, tabs_of fun p hp => hd0_t (List.mem_map.mpr ⟨p, hp, rfl⟩), ⟨ns, rfl, rfl⟩, fun d v H' e _ h => (by
      subst e
      cases h
      rfl), kx_no⟩
  rw [ef] at run
  exact codeAny_mono run fun r s' h => F.ends h
end Fr
set_option maxHeartbeats 0
open PySem PySem.W PySem.Calls PyProof.Rows
theorem PySem.Challenge.cw_fourread_k32_papers_holds : PySem.Challenge.rw_fourread_k32_papers.Holds := by
  w_on; o_law
  refine HandSHeadRun.head_any (r := Fr.RR) (q := PySem.W.view Fr.RR.prog [64]) (H := Fr.hk) (ob := Fr.ob) (M := 12000) (loose := Fr.ln) (d := HandSHeadRun.topDef Fr.RR.prog 64) (kwd := []) Fr.ob_eq (by kernel_rfl) (fun s => by kernel_rfl) Fr.run
    (by kernel_rfl) (by kernel_rfl) (by kernel_rfl) (by rfl) (by first | assumption | decide +kernel) (by decide +kernel) ⟨rfl, rfl, rfl, rfl, rfl, by decide +kernel⟩ ?hw ?hc
  case hw => w_witness2
  case hc =>
    refine Att.attach_callB (l := PySem.Challenge.rw_fourread_k32_papers) (n := 63) rfl (by kernel_rfl) fun w s₀ s₁ mg mb fa o pm cd doc a vs ns G Y ho hd hcd hmg0 hobj hints hlen hbits hg => ?_
    obtain ⟨K, KX, c⟩ := Y
    have hmg : mg ("law" : PySem.Str) = some (.ref fa) := by
      have e : (HandSHeadRun.topDef Fr.RR.prog 64).name = ("law" : PySem.Str) := by kernel_rfl
      rw [← e]
      exact hmg0
    have big := Fr.sizeBig
    exact Fr.law_true c.more c.t.d ⟨KX, G.T.g, G.T.b, G.T.builtins, G.T.nolimit, hg, G.T.bmain, (fun p hp => by
      obtain ⟨x, hx, rfl⟩ := List.mem_map.mp hp
      exact c.hd x hx), (fun p hp => by
      obtain ⟨x, hx, rfl⟩ := List.mem_map.mp hp
      exact c.out x hx), (fun p hp => by
      obtain ⟨x, hx, rfl⟩ := List.mem_map.mp hp
      exact c.empty x hx), hobj, L2.vals_ints hints, by rw [List.length_map]; omega⟩ hmg
