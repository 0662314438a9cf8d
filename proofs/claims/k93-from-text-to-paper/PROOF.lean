import PyProof.Rows.All
import Wide.All
import OpenK.AllK
import Wide.FinOn
import HandS.Head0
import HandS.Head1
import HandS.Head2
import HandS.HeadEnd
import HandS.HeadHook1
import HandS.HeadHook2
import HandS.HeadHook3
import HandS.HeadHook4
import HandS.ExcInit
import KE.KTryMore
import OpenK.KCls
import HandS.Words
import KE.KStateDown
import HandS.ForMost
import HandS.ForExc
import HandS.Wide
import HandS.Conv
import HandS.IsInst
import HandS.Defaults
import HandS.Codes
import HandS.Flow
import PyProof.ReprRoads
import PyProof.EqLayable
import HandS.SortRule
import HandS.Walk
import HandS.SetFor
import HandS.SetKeys
import HandS.Dict
import HandS.ExcOwn
import HandS.TryOnly
import HandS.WordsExc
import KE.KExcIs
import KE.KIsAll
import HandS.More
import HandS.SortInts
import HandS.Zip
import HandS.Text
import HandS.FStr
import PySem.Challenge.RW_stayprice_k93_whole_from_text_to_paper
set_option Elab.async false
set_option linter.all false
set_option maxRecDepth 100000
set_option maxHeartbeats 4000000
/-! YH: what is told of the classes at the head. -/
namespace Y
open PySem PySem.Spec PyProof.Rows L2
def ruleCls : List Str := ["Price", "Come", "Go", "Least", "Most", "Deal", "Fee"]
def wordsL : List Str := ["price", "come", "go", "least", "most", "deal", "fee"]
def isiB (K : PySem.W.Frag) (x y : Str) (b : Bool) : Bool := decide (PySem.W.kitOne K (.ref (He.ga K x)) (.ref (He.ga K y)) = some b)
def tyB (K : PySem.W.Frag) (C : Addr) : Bool := He.eqO (PySem.W.findIn K (.ref C) "__class__") (some (some (.builtin "object.__class__"))) && (He.eqO (PySem.W.specialIn K (.builtin "object.__class__") "__get__") (some (some (.builtin "getset_descriptor.__get__"))) && (decide (PySem.W.takesIn K (.builtin "object.__class__") = some true) && decide (PySem.W.mroIn K C (.type "object") = some true)))
/-- what the rules' classes are, told of K -/
def exRules (K : PySem.W.Frag) : Bool := (ruleCls.all fun x => (He.Fa.cls x).ok K && ((["first", "last", "worth"] : List Str).all (fun f => (He.Fa.noat x f).ok K) && (tyB K (He.ga K x) && isiB K x "Rule" true))) &&
  ((ruleCls.all fun x => ruleCls.all fun y => isiB K x y (decide (x = y))) && He.tupB K "WORDS" (wordsL.map He.Dv.str))
def exBook (K : PySem.W.Frag) : Bool := (He.Fa.cls "Book").ok K && ((["kept", "newest"] : List Str).all (fun f => (He.Fa.noat "Book" f).ok K) && (tyB K (He.ga K "Book") && isiB K "Book" "Book" true))
/-! errors -/
/-- the class x stands under y -/
def subE (x y : Str) : Bool := decide (x = y) || decide (y = "StayError")
/-- what is told of any error's class -/
def errB (K : PySem.W.Frag) (x : Str) : Bool := decide (PySem.W.findIn K (.ref (He.ga K x)) "__getattribute__" = some (some (.builtin "BaseException.__getattribute__"))) && (decide (PySem.W.findIn K (.ref (He.ga K x)) "__getattr__" = some none) &&
  (decide (PySem.W.subIn K (.ref (He.ga K x)) (.type "BaseException") = some true) && (PySem.W.hasDictIn K (He.ga K x) && (tyB K (He.ga K x) && (decide (PySem.W.typeIn K (.ref (He.ga K x)) = some (.type "type")) && (PySem.W.keepIn K (.ref (He.ga K x)) && PySem.W.isClsIn K (He.ga K x)))))))
/-- the errors L, and StayError: which stands under which -/
def exErrs (L : List Str) (K : PySem.W.Frag) : Bool := L.all fun x => errB K x && (decide (PySem.W.kitOne K (.ref (He.ga K x)) (.type "ValueError") = some true) &&
  ((("StayError" : Str) :: L).all fun y => (He.Fa.exm x y (subE x y)).ok K && isiB K x y (subE x y)))
/-- an error's class without own __init__ -/
def exBare (x : Str) (K : PySem.W.Frag) : Bool := PySem.W.excIn K (He.ga K x) He.veBase "ValueError.__new__" && errB K x
def oexB (K : PySem.W.Frag) (C : Addr) : Bool := match K.lookup C with
  | some ⟨.type "type", _, .cls cd, sl⟩ => (match cd.mro, sl.toList with
    | .ref C' :: bm, [_, _, _, _, some (.builtin n), _] => C' == C && (n == "ValueError.__new__" && (!cd.hasDel && (cd.hasDict && PySem.HandSPX.refsVE bm)))
    | _, _ => false)
  | _ => false
/-- StayError.__init__ is ValueError's -/
def exStay (K : PySem.W.Frag) : Bool := PySem.W.readsIn K (He.ga K "StayError") (.type "type") && (decide (PySem.W.specialIn K (.ref (He.ga K "StayError")) "__getattribute__" = some (some (.builtin "type.__getattribute__"))) &&
  (match PySem.W.findCls K (.ref (He.ga K "StayError")) (.type "type") "__init__" with
  | some (.val (.builtin n)) => decide (n = "ValueError.__init__")
  | _ => false))
/-- an error's class whose __init__ calls StayError's and writes the field f -/
def exInit (x f : Str) (K : PySem.W.Frag) : Bool := exStay K && (oexB K (He.ga K x) && (decide (PySem.W.findIn K (.ref (He.ga K x)) "__setattr__" = some (some (.builtin "object.__setattr__"))) && (decide (PySem.W.findIn K (.ref (He.ga K x)) f = some none) && errB K x)))
def exHind (K : PySem.W.Frag) : Bool := He.tupB K "HINDERING" (((["price", "come", "go", "least", "most"] : List Str)).map He.Dv.str)
/-! the head's hook: what the names reach, and the table of statics (a class's attributes are looked up there) -/
abbrev AlY : Type := He.AlD × Bool
def asY (g : Addr → Option Obj) (n : Nat) : List Addr := He.asD g n ++ [cStatics]
def obsY (n : Nat) (fa : List He.Fa) (fn : List He.DefD) (ex : PySem.W.Frag → Bool) (g : Addr → Option Obj) : AlY := (He.obsD fa fn (He.frG g (asY g n)), ex (He.frG g (asY g n)))
def hookY (n : Nat) (fa : List He.Fa) (fn : List He.DefD) (ex : PySem.W.Frag → Bool) : PySem.W.Hook where
  α := AlY
  obs := fun s => obsY n fa fn ex s.heap.get?
  val := fun _ => (He.valD fn, true)
  says := fun _ h => ∃ K : PySem.W.Frag, K.In h ∧ He.SaysD fa fn K ∧ ex K = true
  of := fun _ _ e => ⟨_, He.frG_in, congrArg (fun z : AlY => z.1) e, congrArg (fun z : AlY => z.2) e⟩
  keeps := fun _ _ _ ⟨K, hK, c⟩ k => ⟨K, PySem.W.Frag.In.keeps hK k, c⟩
theorem obsY_eq {n : Nat} {fa : List He.Fa} {fn : List He.DefD} {ex : PySem.W.Frag → Bool} {g : Addr → Option Obj} {s : Shared} (h : ∀ a, g a = s.heap.get? a) : obsY n fa fn ex g = (hookY n fa fn ex).obs s := by
  have e : g = s.heap.get? := funext h
  rw [e] <;> rfl
end Y
namespace YHd
open PySem PySem.Spec PyProof.Rows L2 Y
def top (i : Nat) : Stmt := PySem.Challenge.pw_stayprice_k93_whole_from_text_to_paper.main.body.getD i (.Pass ⟨0, 0, 0, 0⟩)
abbrev s_Ltape : Stmt := top 68
abbrev s_Ldraw : Stmt := top 69
abbrev s_Lcoins : Stmt := top 70
abbrev s_Lprice_rules : Stmt := top 72
abbrev s_Lworth : Stmt := top 71
abbrev s_Lother_rules : Stmt := top 73
abbrev s_Lrules : Stmt := top 74
abbrev s_is_whole : Stmt := top 3
abbrev s_is_day : Stmt := top 4
abbrev s_is_two_days : Stmt := top 5
abbrev s_is_stretch : Stmt := top 6
abbrev s_Rule_init : Stmt := inClass (top 21) 0
abbrev s_made : Stmt := top 29
abbrev s_is_coins : Stmt := top 19
abbrev s_Price_fits : Stmt := inClass (top 22) 1
abbrev s_Come_fits : Stmt := inClass (top 23) 1
abbrev s_Go_fits : Stmt := inClass (top 24) 1
abbrev s_is_nights : Stmt := top 20
abbrev s_Least_fits : Stmt := inClass (top 25) 1
abbrev s_Most_fits : Stmt := inClass (top 26) 1
abbrev s_Deal_fits : Stmt := inClass (top 27) 1
abbrev s_Fee_fits : Stmt := inClass (top 28) 1
abbrev s_rule_of : Stmt := top 30
abbrev s_Price_word : Stmt := inClass (top 22) 0
abbrev s_Come_word : Stmt := inClass (top 23) 0
abbrev s_Go_word : Stmt := inClass (top 24) 0
abbrev s_Least_word : Stmt := inClass (top 25) 0
abbrev s_Most_word : Stmt := inClass (top 26) 0
abbrev s_Deal_word : Stmt := inClass (top 27) 0
abbrev s_Fee_word : Stmt := inClass (top 28) 0
abbrev s_Book_init : Stmt := inClass (top 34) 0
abbrev s_Lbooks : Stmt := top 76
abbrev s_Rule_told : Stmt := inClass (top 21) 4
abbrev s_Book_rules : Stmt := inClass (top 34) 1
abbrev s_worth_text : Stmt := top 38
abbrev s_rule_text : Stmt := top 39
abbrev s_show_book : Stmt := top 43
abbrev s_number_by : Stmt := top 40
abbrev s_worths_by : Stmt := top 41
abbrev s_rule_by : Stmt := top 42
abbrev s_read_book : Stmt := top 44
abbrev s_Lstay : Stmt := top 75
abbrev s_Rule_tells : Stmt := inClass (top 21) 3
abbrev s_usual : Stmt := top 31
abbrev s_Book_tells_of : Stmt := inClass (top 34) 2
abbrev s_nights_of : Stmt := top 8
abbrev s_can_be_had : Stmt := top 50
abbrev s_marked : Stmt := top 46
abbrev s_bill : Stmt := top 47
abbrev s_coins_of : Stmt := top 51
abbrev s_parts_from : Stmt := top 54
abbrev s_ways : Stmt := top 55
abbrev s_paper_by : Stmt := top 57
abbrev s_cut_by : Stmt := top 56
abbrev s_best : Stmt := top 58
abbrev s_priced_parts : Stmt := top 62
abbrev s_is_shut : Stmt := top 65
abbrev s_is_stay : Stmt := top 7
abbrev s_is_part : Stmt := top 60
abbrev s_is_cut : Stmt := top 61
abbrev s_cost : Stmt := top 52
abbrev s_cost_of : Stmt := top 63
abbrev s_is_paper : Stmt := top 64
abbrev s_lets_by : Stmt := top 66
abbrev s_bars : Stmt := top 49
abbrev s_laid : Stmt := top 35
abbrev s_law : Stmt := top 77
/-! the head: facts by names, the run of the top -/
def d_Ltape : He.DefD := ⟨("_law_tape", none), "_law_tape", "_law_tape", defArgs s_Ltape, defBody s_Ltape, defScope s_Ltape, [], []⟩
def d_Ldraw : He.DefD := ⟨("_law_draw", none), "_law_draw", "_law_draw", defArgs s_Ldraw, defBody s_Ldraw, defScope s_Ldraw, [], []⟩
def d_Lcoins : He.DefD := ⟨("_law_coins", none), "_law_coins", "_law_coins", defArgs s_Lcoins, defBody s_Lcoins, defScope s_Lcoins, [], []⟩
def d_Lprice_rules : He.DefD := ⟨("_law_price_rules", none), "_law_price_rules", "_law_price_rules", defArgs s_Lprice_rules, defBody s_Lprice_rules, defScope s_Lprice_rules, [], []⟩
def d_Lworth : He.DefD := ⟨("_law_worth", none), "_law_worth", "_law_worth", defArgs s_Lworth, defBody s_Lworth, defScope s_Lworth, [], []⟩
def d_Lother_rules : He.DefD := ⟨("_law_other_rules", none), "_law_other_rules", "_law_other_rules", defArgs s_Lother_rules, defBody s_Lother_rules, defScope s_Lother_rules, [], []⟩
def d_Lrules : He.DefD := ⟨("_law_rules", none), "_law_rules", "_law_rules", defArgs s_Lrules, defBody s_Lrules, defScope s_Lrules, [], []⟩
def d_is_whole : He.DefD := ⟨("is_whole", none), "is_whole", "is_whole", defArgs s_is_whole, defBody s_is_whole, defScope s_is_whole, [], []⟩
def d_is_day : He.DefD := ⟨("is_day", none), "is_day", "is_day", defArgs s_is_day, defBody s_is_day, defScope s_is_day, [], []⟩
def d_is_two_days : He.DefD := ⟨("is_two_days", none), "is_two_days", "is_two_days", defArgs s_is_two_days, defBody s_is_two_days, defScope s_is_two_days, [], []⟩
def d_is_stretch : He.DefD := ⟨("is_stretch", none), "is_stretch", "is_stretch", defArgs s_is_stretch, defBody s_is_stretch, defScope s_is_stretch, [], []⟩
def d_Price_init : He.DefD := ⟨("Price", some "__init__"), "__init__", "Rule.__init__", defArgs s_Rule_init, defBody s_Rule_init, defScope s_Rule_init, [], []⟩
def d_Come_init : He.DefD := ⟨("Come", some "__init__"), "__init__", "Rule.__init__", defArgs s_Rule_init, defBody s_Rule_init, defScope s_Rule_init, [], []⟩
def d_Go_init : He.DefD := ⟨("Go", some "__init__"), "__init__", "Rule.__init__", defArgs s_Rule_init, defBody s_Rule_init, defScope s_Rule_init, [], []⟩
def d_Least_init : He.DefD := ⟨("Least", some "__init__"), "__init__", "Rule.__init__", defArgs s_Rule_init, defBody s_Rule_init, defScope s_Rule_init, [], []⟩
def d_Most_init : He.DefD := ⟨("Most", some "__init__"), "__init__", "Rule.__init__", defArgs s_Rule_init, defBody s_Rule_init, defScope s_Rule_init, [], []⟩
def d_Deal_init : He.DefD := ⟨("Deal", some "__init__"), "__init__", "Rule.__init__", defArgs s_Rule_init, defBody s_Rule_init, defScope s_Rule_init, [], []⟩
def d_Fee_init : He.DefD := ⟨("Fee", some "__init__"), "__init__", "Rule.__init__", defArgs s_Rule_init, defBody s_Rule_init, defScope s_Rule_init, [], []⟩
def d_made : He.DefD := ⟨("made", none), "made", "made", defArgs s_made, defBody s_made, defScope s_made, [], []⟩
def d_is_coins : He.DefD := ⟨("is_coins", none), "is_coins", "is_coins", defArgs s_is_coins, defBody s_is_coins, defScope s_is_coins, [], []⟩
def d_Price_fits : He.DefD := ⟨("Price", some "fits"), "fits", "Price.fits", defArgs s_Price_fits, defBody s_Price_fits, defScope s_Price_fits, [], []⟩
def d_Come_fits : He.DefD := ⟨("Come", some "fits"), "fits", "Come.fits", defArgs s_Come_fits, defBody s_Come_fits, defScope s_Come_fits, [], []⟩
def d_Go_fits : He.DefD := ⟨("Go", some "fits"), "fits", "Go.fits", defArgs s_Go_fits, defBody s_Go_fits, defScope s_Go_fits, [], []⟩
def d_is_nights : He.DefD := ⟨("is_nights", none), "is_nights", "is_nights", defArgs s_is_nights, defBody s_is_nights, defScope s_is_nights, [], []⟩
def d_Least_fits : He.DefD := ⟨("Least", some "fits"), "fits", "Least.fits", defArgs s_Least_fits, defBody s_Least_fits, defScope s_Least_fits, [], []⟩
def d_Most_fits : He.DefD := ⟨("Most", some "fits"), "fits", "Most.fits", defArgs s_Most_fits, defBody s_Most_fits, defScope s_Most_fits, [], []⟩
def d_Deal_fits : He.DefD := ⟨("Deal", some "fits"), "fits", "Deal.fits", defArgs s_Deal_fits, defBody s_Deal_fits, defScope s_Deal_fits, [], []⟩
def d_Fee_fits : He.DefD := ⟨("Fee", some "fits"), "fits", "Fee.fits", defArgs s_Fee_fits, defBody s_Fee_fits, defScope s_Fee_fits, [], []⟩
def d_rule_of : He.DefD := ⟨("rule_of", none), "rule_of", "rule_of", defArgs s_rule_of, defBody s_rule_of, defScope s_rule_of, [], []⟩
def d_Price_word : He.DefD := ⟨("Price", some "word"), "word", "Price.word", defArgs s_Price_word, defBody s_Price_word, defScope s_Price_word, [], []⟩
def d_Come_word : He.DefD := ⟨("Come", some "word"), "word", "Come.word", defArgs s_Come_word, defBody s_Come_word, defScope s_Come_word, [], []⟩
def d_Go_word : He.DefD := ⟨("Go", some "word"), "word", "Go.word", defArgs s_Go_word, defBody s_Go_word, defScope s_Go_word, [], []⟩
def d_Least_word : He.DefD := ⟨("Least", some "word"), "word", "Least.word", defArgs s_Least_word, defBody s_Least_word, defScope s_Least_word, [], []⟩
def d_Most_word : He.DefD := ⟨("Most", some "word"), "word", "Most.word", defArgs s_Most_word, defBody s_Most_word, defScope s_Most_word, [], []⟩
def d_Deal_word : He.DefD := ⟨("Deal", some "word"), "word", "Deal.word", defArgs s_Deal_word, defBody s_Deal_word, defScope s_Deal_word, [], []⟩
def d_Fee_word : He.DefD := ⟨("Fee", some "word"), "word", "Fee.word", defArgs s_Fee_word, defBody s_Fee_word, defScope s_Fee_word, [], []⟩
def d_Book_init : He.DefD := ⟨("Book", some "__init__"), "__init__", "Book.__init__", defArgs s_Book_init, defBody s_Book_init, defScope s_Book_init, [.non], []⟩
def d_Lbooks : He.DefD := ⟨("_law_books", none), "_law_books", "_law_books", defArgs s_Lbooks, defBody s_Lbooks, defScope s_Lbooks, [], []⟩
def d_Price_told : He.DefD := ⟨("Price", some "told"), "told", "Rule.told", defArgs s_Rule_told, defBody s_Rule_told, defScope s_Rule_told, [], []⟩
def d_Come_told : He.DefD := ⟨("Come", some "told"), "told", "Rule.told", defArgs s_Rule_told, defBody s_Rule_told, defScope s_Rule_told, [], []⟩
def d_Go_told : He.DefD := ⟨("Go", some "told"), "told", "Rule.told", defArgs s_Rule_told, defBody s_Rule_told, defScope s_Rule_told, [], []⟩
def d_Least_told : He.DefD := ⟨("Least", some "told"), "told", "Rule.told", defArgs s_Rule_told, defBody s_Rule_told, defScope s_Rule_told, [], []⟩
def d_Most_told : He.DefD := ⟨("Most", some "told"), "told", "Rule.told", defArgs s_Rule_told, defBody s_Rule_told, defScope s_Rule_told, [], []⟩
def d_Deal_told : He.DefD := ⟨("Deal", some "told"), "told", "Rule.told", defArgs s_Rule_told, defBody s_Rule_told, defScope s_Rule_told, [], []⟩
def d_Fee_told : He.DefD := ⟨("Fee", some "told"), "told", "Rule.told", defArgs s_Rule_told, defBody s_Rule_told, defScope s_Rule_told, [], []⟩
def d_Book_rules : He.DefD := ⟨("Book", some "rules"), "rules", "Book.rules", defArgs s_Book_rules, defBody s_Book_rules, defScope s_Book_rules, [], []⟩
def d_worth_text : He.DefD := ⟨("worth_text", none), "worth_text", "worth_text", defArgs s_worth_text, defBody s_worth_text, defScope s_worth_text, [], []⟩
def d_rule_text : He.DefD := ⟨("rule_text", none), "rule_text", "rule_text", defArgs s_rule_text, defBody s_rule_text, defScope s_rule_text, [], []⟩
def d_show_book : He.DefD := ⟨("show_book", none), "show_book", "show_book", defArgs s_show_book, defBody s_show_book, defScope s_show_book, [], []⟩
def d_number_by : He.DefD := ⟨("number_by", none), "number_by", "number_by", defArgs s_number_by, defBody s_number_by, defScope s_number_by, [], []⟩
def d_worths_by : He.DefD := ⟨("worths_by", none), "worths_by", "worths_by", defArgs s_worths_by, defBody s_worths_by, defScope s_worths_by, [], []⟩
def d_rule_by : He.DefD := ⟨("rule_by", none), "rule_by", "rule_by", defArgs s_rule_by, defBody s_rule_by, defScope s_rule_by, [], []⟩
def d_read_book : He.DefD := ⟨("read_book", none), "read_book", "read_book", defArgs s_read_book, defBody s_read_book, defScope s_read_book, [], []⟩
def d_Lstay : He.DefD := ⟨("_law_stay", none), "_law_stay", "_law_stay", defArgs s_Lstay, defBody s_Lstay, defScope s_Lstay, [], []⟩
def d_Price_tells : He.DefD := ⟨("Price", some "tells"), "tells", "Rule.tells", defArgs s_Rule_tells, defBody s_Rule_tells, defScope s_Rule_tells, [], []⟩
def d_Come_tells : He.DefD := ⟨("Come", some "tells"), "tells", "Rule.tells", defArgs s_Rule_tells, defBody s_Rule_tells, defScope s_Rule_tells, [], []⟩
def d_Go_tells : He.DefD := ⟨("Go", some "tells"), "tells", "Rule.tells", defArgs s_Rule_tells, defBody s_Rule_tells, defScope s_Rule_tells, [], []⟩
def d_Least_tells : He.DefD := ⟨("Least", some "tells"), "tells", "Rule.tells", defArgs s_Rule_tells, defBody s_Rule_tells, defScope s_Rule_tells, [], []⟩
def d_Most_tells : He.DefD := ⟨("Most", some "tells"), "tells", "Rule.tells", defArgs s_Rule_tells, defBody s_Rule_tells, defScope s_Rule_tells, [], []⟩
def d_Deal_tells : He.DefD := ⟨("Deal", some "tells"), "tells", "Rule.tells", defArgs s_Rule_tells, defBody s_Rule_tells, defScope s_Rule_tells, [], []⟩
def d_Fee_tells : He.DefD := ⟨("Fee", some "tells"), "tells", "Rule.tells", defArgs s_Rule_tells, defBody s_Rule_tells, defScope s_Rule_tells, [], []⟩
def d_usual : He.DefD := ⟨("usual", none), "usual", "usual", defArgs s_usual, defBody s_usual, defScope s_usual, [], []⟩
def d_Book_tells_of : He.DefD := ⟨("Book", some "tells_of"), "tells_of", "Book.tells_of", defArgs s_Book_tells_of, defBody s_Book_tells_of, defScope s_Book_tells_of, [], []⟩
def d_nights_of : He.DefD := ⟨("nights_of", none), "nights_of", "nights_of", defArgs s_nights_of, defBody s_nights_of, defScope s_nights_of, [], []⟩
def d_can_be_had : He.DefD := ⟨("can_be_had", none), "can_be_had", "can_be_had", defArgs s_can_be_had, defBody s_can_be_had, defScope s_can_be_had, [], []⟩
def d_marked : He.DefD := ⟨("marked", none), "marked", "marked", defArgs s_marked, defBody s_marked, defScope s_marked, [], []⟩
def d_bill : He.DefD := ⟨("bill", none), "bill", "bill", defArgs s_bill, defBody s_bill, defScope s_bill, [], []⟩
def d_coins_of : He.DefD := ⟨("coins_of", none), "coins_of", "coins_of", defArgs s_coins_of, defBody s_coins_of, defScope s_coins_of, [], []⟩
def d_parts_from : He.DefD := ⟨("parts_from", none), "parts_from", "parts_from", defArgs s_parts_from, defBody s_parts_from, defScope s_parts_from, [], []⟩
def d_ways : He.DefD := ⟨("ways", none), "ways", "ways", defArgs s_ways, defBody s_ways, defScope s_ways, [], []⟩
def d_paper_by : He.DefD := ⟨("paper_by", none), "paper_by", "paper_by", defArgs s_paper_by, defBody s_paper_by, defScope s_paper_by, [], []⟩
def d_cut_by : He.DefD := ⟨("cut_by", none), "cut_by", "cut_by", defArgs s_cut_by, defBody s_cut_by, defScope s_cut_by, [], []⟩
def d_best : He.DefD := ⟨("best", none), "best", "best", defArgs s_best, defBody s_best, defScope s_best, [], []⟩
def d_priced_parts : He.DefD := ⟨("priced_parts", none), "priced_parts", "priced_parts", defArgs s_priced_parts, defBody s_priced_parts, defScope s_priced_parts, [], []⟩
def d_is_shut : He.DefD := ⟨("is_shut", none), "is_shut", "is_shut", defArgs s_is_shut, defBody s_is_shut, defScope s_is_shut, [], []⟩
def d_is_stay : He.DefD := ⟨("is_stay", none), "is_stay", "is_stay", defArgs s_is_stay, defBody s_is_stay, defScope s_is_stay, [], []⟩
def d_is_part : He.DefD := ⟨("is_part", none), "is_part", "is_part", defArgs s_is_part, defBody s_is_part, defScope s_is_part, [], []⟩
def d_is_cut : He.DefD := ⟨("is_cut", none), "is_cut", "is_cut", defArgs s_is_cut, defBody s_is_cut, defScope s_is_cut, [], []⟩
def d_cost : He.DefD := ⟨("cost", none), "cost", "cost", defArgs s_cost, defBody s_cost, defScope s_cost, [], []⟩
def d_cost_of : He.DefD := ⟨("cost_of", none), "cost_of", "cost_of", defArgs s_cost_of, defBody s_cost_of, defScope s_cost_of, [], []⟩
def d_is_paper : He.DefD := ⟨("is_paper", none), "is_paper", "is_paper", defArgs s_is_paper, defBody s_is_paper, defScope s_is_paper, [], []⟩
def d_lets_by : He.DefD := ⟨("lets_by", none), "lets_by", "lets_by", defArgs s_lets_by, defBody s_lets_by, defScope s_lets_by, [], []⟩
def d_bars : He.DefD := ⟨("bars", none), "bars", "bars", defArgs s_bars, defBody s_bars, defScope s_bars, [], []⟩
def d_laid : He.DefD := ⟨("laid", none), "laid", "laid", defArgs s_laid, defBody s_laid, defScope s_laid, [], []⟩
def d_law : He.DefD := ⟨("law", none), "law", "law", defArgs s_law, defBody s_law, defScope s_law, [], []⟩
def fn : List He.DefD := d_Ltape :: d_Ldraw :: d_Lcoins :: d_Lprice_rules :: d_Lworth :: d_Lother_rules :: d_Lrules :: d_is_whole :: d_is_day :: d_is_two_days :: d_is_stretch :: d_Price_init :: d_Come_init :: d_Go_init :: d_Least_init :: d_Most_init :: d_Deal_init :: d_Fee_init :: d_made :: d_is_coins :: d_Price_fits :: d_Come_fits :: d_Go_fits :: d_is_nights :: d_Least_fits :: d_Most_fits :: d_Deal_fits :: d_Fee_fits :: d_rule_of :: d_Price_word :: d_Come_word :: d_Go_word :: d_Least_word :: d_Most_word :: d_Deal_word :: d_Fee_word :: d_Book_init :: d_Lbooks :: d_Price_told :: d_Come_told :: d_Go_told :: d_Least_told :: d_Most_told :: d_Deal_told :: d_Fee_told :: d_Book_rules :: d_worth_text :: d_rule_text :: d_show_book :: d_number_by :: d_worths_by :: d_rule_by :: d_read_book :: d_Lstay :: d_Price_tells :: d_Come_tells :: d_Go_tells :: d_Least_tells :: d_Most_tells :: d_Deal_tells :: d_Fee_tells :: d_usual :: d_Book_tells_of :: d_nights_of :: d_can_be_had :: d_marked :: d_bill :: d_coins_of :: d_parts_from :: d_ways :: d_paper_by :: d_cut_by :: d_best :: d_priced_parts :: d_is_shut :: d_is_stay :: d_is_part :: d_is_cut :: d_cost :: d_cost_of :: d_is_paper :: d_lets_by :: d_bars :: d_laid :: d_law :: []
def fa : List He.Fa := .glo "_law_tape" :: .glo "_law_draw" :: .glo "_law_coins" :: .glo "_law_price_rules" :: .glo "_law_worth" :: .glo "_law_other_rules" :: .glo "_law_rules" :: .glo "is_whole" :: .glo "is_day" :: .glo "is_two_days" :: .glo "is_stretch" :: .mkr "Price" :: .mkr "Come" :: .mkr "Go" :: .mkr "Least" :: .mkr "Most" :: .mkr "Deal" :: .mkr "Fee" :: .glo "made" :: .glo "is_coins" :: .cls "Price" :: .meth "Price" "fits" :: .cls "Come" :: .meth "Come" "fits" :: .cls "Go" :: .meth "Go" "fits" :: .glo "is_nights" :: .cls "Least" :: .meth "Least" "fits" :: .cls "Most" :: .meth "Most" "fits" :: .cls "Deal" :: .meth "Deal" "fits" :: .cls "Fee" :: .meth "Fee" "fits" :: .glo "rule_of" :: .meth "Price" "word" :: .meth "Come" "word" :: .meth "Go" "word" :: .meth "Least" "word" :: .meth "Most" "word" :: .meth "Deal" "word" :: .meth "Fee" "word" :: .mkr "Book" :: .glo "_law_books" :: .meth "Price" "told" :: .meth "Come" "told" :: .meth "Go" "told" :: .meth "Least" "told" :: .meth "Most" "told" :: .meth "Deal" "told" :: .meth "Fee" "told" :: .cls "Book" :: .meth "Book" "rules" :: .glo "worth_text" :: .glo "rule_text" :: .glo "show_book" :: .glo "number_by" :: .glo "worths_by" :: .glo "rule_by" :: .glo "read_book" :: .glo "_law_stay" :: .meth "Price" "tells" :: .meth "Come" "tells" :: .meth "Go" "tells" :: .meth "Least" "tells" :: .meth "Most" "tells" :: .meth "Deal" "tells" :: .meth "Fee" "tells" :: .glo "usual" :: .meth "Book" "tells_of" :: .glo "nights_of" :: .glo "can_be_had" :: .glo "marked" :: .glo "bill" :: .glo "coins_of" :: .glo "parts_from" :: .glo "ways" :: .glo "paper_by" :: .glo "cut_by" :: .glo "best" :: .glo "priced_parts" :: .glo "is_shut" :: .glo "is_stay" :: .glo "is_part" :: .glo "is_cut" :: .glo "cost" :: .glo "cost_of" :: .glo "is_paper" :: .glo "lets_by" :: .glo "bars" :: .glo "laid" :: .glo "law" :: .free "abs" :: .free "all" :: .free "any" :: .free "bool" :: .free "enumerate" :: .free "int" :: .free "isinstance" :: .free "len" :: .free "list" :: .free "max" :: .free "range" :: .free "repr" :: .free "sorted" :: .free "str" :: .free "sum" :: .free "tuple" :: .str "FIGURES" "0123456789" :: .int "LAST_DAY" 1000000 :: .int "MOST_COINS" 1000000000000 :: .int "MOST_NIGHTS" 14 :: .int "MOST_RULES" 24 :: .glo "WORDS" :: .glo "Book" :: .glo "Come" :: .glo "Deal" :: .glo "Fee" :: .glo "Go" :: .glo "Least" :: .glo "Most" :: .glo "Price" :: []
def ex (K : PySem.W.Frag) : Bool := exRules K && exBook K
abbrev AlH := AlY
abbrev R : PySem.W.OpenRow := PySem.W.OpenLaw.row PySem.Challenge.rw_stayprice_k93_whole_from_text_to_paper
abbrev hk : PySem.W.Hook := hookY 5 fa fn ex
def ob (s : PySem.W.SharedT) : AlH := obsY 5 fa fn ex (HandSHeadRun.getT s)
theorem ob_eq (s : PySem.W.SharedT) : ob s = hk.obs s.abs := obsY_eq (HandSHeadRun.getT_eq s)
def loose : List PySem.Str := "LAST_DAY" :: "MOST_NIGHTS" :: "is_whole" :: "is_day" :: "is_two_days" :: "is_stretch" :: "is_stay" :: "nights_of" :: "StayError" :: "NoRule" :: "NoText" :: "NotSold" :: "Barred" :: "TooMany" :: "WORDS" :: "MOST_COINS" :: "is_coins" :: "is_nights" :: "Rule" :: "Price" :: "Come" :: "Go" :: "Least" :: "Most" :: "Deal" :: "Fee" :: "made" :: "rule_of" :: "usual" :: "MOST_RULES" :: "Book" :: "laid" :: "FIGURES" :: "worth_text" :: "rule_text" :: "number_by" :: "worths_by" :: "rule_by" :: "show_book" :: "read_book" :: "marked" :: "bill" :: "bars" :: "can_be_had" :: "coins_of" :: "cost" :: "parts_from" :: "ways" :: "cut_by" :: "paper_by" :: "best" :: "is_part" :: "is_cut" :: "priced_parts" :: "cost_of" :: "is_paper" :: "is_shut" :: "lets_by" :: "_law_tape" :: "_law_draw" :: "_law_coins" :: "_law_worth" :: "_law_price_rules" :: "_law_other_rules" :: "_law_rules" :: "_law_stay" :: "_law_books" :: []
theorem run (w : World) : HandSHeadRun.RunEq R (PySem.W.view R.prog [77]) hk ob 6000 loose w := by
  intro os
  kernel_rfl
end YHd
/-! Y0: short names of readings; promises by their number of arguments; heaps that grow; steps of a reading. -/
namespace Y
open PySem PySem.Spec PyProof.Rows L2

/-- nothing stands at p -/
def Fr (H : Hp) (p : Addr) : Prop := H p = none
/-! ### short names for the readings of operators and built-ins -/
abbrev rAdd : R2 := rI0 fun i j => .int (i + j)
abbrev rSub : R2 := rI0 fun i j => .int (i - j)
abbrev rMul : R2 := rI CMul fun i j => .int (i * j)
abbrev rPow : R2 := rI CPow fun i j => .int (i ^ j.toNat)
abbrev rMod : R2 := rI (fun _ j => 0 < j) fun i j => .int (i % j)
abbrev rDivW : R2 := rI CDivW fun i j => .int (i / j)
abbrev rLt : R2 := rI0 fun i j => .bl (decide (i < j))
abbrev rLe : R2 := rI0 fun i j => .bl (decide (i ≤ j))
abbrev rGt : R2 := rI0 fun i j => .bl (decide (j < i))
abbrev rGe : R2 := rI0 fun i j => .bl (decide (j ≤ i))
abbrev rIsN : R2 := fun x y H Q => y = .non ∧ Q (.bl (decide (x = .non))) H
abbrev rNotN : R2 := fun x y H Q => y = .non ∧ Q (.bl (!decide (x = .non))) H
abbrev rAddS : R2 := fun x y H Q => ∃ i j, x = .str i ∧ y = .str j ∧ i.length + j.length ≤ sizeLine ∧ Q (.str (i ++ j)) H
abbrev rNeg : V → Hp → VK → Prop := rU fun i => .int (-i)
abbrev rAbs : List V → Hp → VK → Prop := fun xs H Q => ∃ i, xs = [.int i] ∧ Q (.int (if i < 0 then -i else i)) H
abbrev rMax2 : List V → Hp → VK → Prop := fun xs H Q => ∃ i j, xs = [.int i, .int j] ∧ Q (.int (if j > i then j else i)) H
abbrev rMin2 : List V → Hp → VK → Prop := fun xs H Q => ∃ i j, xs = [.int i, .int j] ∧ Q (.int (if j < i then j else i)) H
abbrev rInt1 : List V → Hp → VK → Prop := fun xs H Q => (∃ i, xs = [.int i] ∧ Q (.int i) H) ∨ ∃ k, xs = [.bl k] ∧ Q (.int (if k then 1 else 0)) H
abbrev rLen (K : PySem.W.Frag) : List V → Hp → VK → Prop := fun xs H Q => ∃ p ys, xs = [.ref p] ∧ (SqL K H p ys ∨ SqT K H p ys) ∧ Q (.int ys.length) H
abbrev rLenS : List V → Hp → VK → Prop := fun xs H Q => ∃ z, xs = [.str z] ∧ z.length ≤ sizeLine ∧ Q (.int z.length) H
abbrev rLenA (K : PySem.W.Frag) : List V → Hp → VK → Prop := fun xs H Q => ∃ x n, xs = [x] ∧ LenV K x H n ∧ Q (.int n) H
abbrev rListOf (K : PySem.W.Frag) : List V → Hp → VK → Prop := fun xs H Q => ∃ p ys, xs = [.ref p] ∧ (SqL K H p ys ∨ SqT K H p ys) ∧ ∀ l, H l = none → Q (.ref l) (upd H l (.lst ys))
abbrev rTupOf (K : PySem.W.Frag) : List V → Hp → VK → Prop := fun xs H Q => ∃ p ys, xs = [.ref p] ∧ ((SqL K H p ys ∧ ∀ l, H l = none → Q (.ref l) (upd H l (.tup ys))) ∨ (SqT K H p ys ∧ Q (.ref p) H))
abbrev rInsert : V → List V → Hp → VK → Prop := fun x vs H Q => ∃ (l : Addr) (xs : List V) (i : Int) (y : V), x = .ref l ∧ vs = [.int i, y] ∧ H l = some (.lst xs) ∧ xs.length < sizeLine ∧ 0 ≤ i ∧ i < 2 ^ 63 ∧ Q .non (upd H l (.lst (xs.take i.toNat ++ [y] ++ xs.drop i.toNat)))
abbrev tTruth (K : PySem.W.Frag) (ta : TE) : TT := fun σ H Q => ta σ H fun x H1 => ∃ k, TruV K x H1 k ∧ Q k H1

/-! ### steps by what the reading is -/
section
variable {K : PySem.W.Frag} {σ : L2.St} {H : Hp} {Q : VK} {x y v : V} {i j : Int} {p : Addr} {xs : List V}
theorem g_c (q : Q v H) : tC v σ H Q := q
theorem g_op {r : R2} {ta tb : TE} (q : ta σ H fun x H1 => tb σ H1 fun y H2 => r x y H2 Q) : tOp r ta tb σ H Q := q
theorem g_un {r : V → Hp → VK → Prop} {ta : TE} (q : ta σ H fun x H1 => r x H1 Q) : tUn r ta σ H Q := q
theorem g_chain {r r' : R2} {ta tb tc : TE} (q : ta σ H fun x H1 => tb σ H1 fun y H2 => r x y H2 fun z H3 => ∃ k, z = .bl k ∧ (if k = true then tc σ H3 fun w' H4 => r' y w' H4 Q else Q (.bl false) H3)) : tChain r r' ta tb tc σ H Q := q
theorem g_tB {t : TE} {Q : Bool → Hp → Prop} (h : t σ H fun x H' => ∃ k, x = .bl k ∧ Q k H') : tB t σ H Q := h
theorem g_and {t u : TT} {Q : Bool → Hp → Prop} (h : t σ H fun c H1 => if c = true then u σ H1 Q else Q false H1) : tAnd t u σ H Q := h
theorem g_or {t u : TT} {Q : Bool → Hp → Prop} (h : t σ H fun c H1 => if c = true then Q true H1 else u σ H1 Q) : tOr t u σ H Q := h
theorem g_not {t : TT} {Q : Bool → Hp → Prop} (h : t σ H fun c H1 => Q (!c) H1) : tNot t σ H Q := h
theorem g_andV {ta tb : TE} (h : ta σ H fun x H1 => ∃ c, x = .bl c ∧ if c = true then tb σ H1 Q else Q (.bl false) H1) : tAndV ta tb σ H Q := h
theorem g_orV {ta tb : TE} (h : ta σ H fun x H1 => ∃ c, x = .bl c ∧ if c = true then Q (.bl true) H1 else tb σ H1 Q) : tOrV ta tb σ H Q := h
theorem g_notV {ta : TE} (h : ta σ H fun x H1 => ∃ c, x = .bl c ∧ Q (.bl (!c)) H1) : tNotV ta σ H Q := h
theorem g_if {t : TT} {ta tb : TE} (h : t σ H fun c H1 => if c = true then ta σ H1 Q else tb σ H1 Q) : tIf t ta tb σ H Q := h
theorem g_nil {Q : List V → Hp → Prop} (h : Q [] H) : tNil σ H Q := h
theorem g_cons {ta : TE} {tr : TA} {Q : List V → Hp → Prop} (h : ta σ H fun x H1 => tr σ H1 fun xs H2 => Q (x :: xs) H2) : tCons ta tr σ H Q := h
theorem g_tTup {t : TA} (h : t σ H fun xs H1 => xs.length ≤ sizeLine ∧ ∀ p, Fr H1 p → Q (.ref p) (upd H1 p (.tup xs))) : tTup t σ H Q := h
theorem g_tLst {t : TA} (h : t σ H fun xs H1 => xs.length ≤ sizeLine ∧ ∀ p, Fr H1 p → Q (.ref p) (upd H1 p (.lst xs))) : tLst t σ H Q := h
theorem g_cb {r : List V → Hp → VK → Prop} {t : TA} (h : t σ H fun vs H1 => r vs H1 Q) : tCB r t σ H Q := h
theorem g_call {sp : Sp} {dvs : List V} {E : XK} {t : TA} (h : t σ H fun vs H1 => sp (vs ++ dvs) H1 Q E) : tCall sp dvs E t σ H Q := h
theorem g_sl {r : V → Option Int → Option Int → Hp → VK → Prop} {te : TE} {tl th : TO} (h : te σ H fun x H1 => tl σ H1 fun l H2 => th σ H2 fun u H3 => r x l u H3 Q) : tSl r te tl th σ H Q := h
theorem g_wipe {a b : L2.St} {R : Prop} (h : a = b) (r : R) : a = b ∧ R := ⟨h, r⟩
theorem g_np {Q : Option Int → Hp → Prop} (h : Q none H) : tNoPart σ H Q := h
theorem g_pt {t : TE} {Q : Option Int → Hp → Prop} (h : t σ H fun x H1 => ∃ i, x = .int i ∧ Q (some i) H1) : tPart t σ H Q := h
theorem g_exI {R : Int → Prop} (q : R i) : ∃ i', V.int i = .int i' ∧ R i' := ⟨i, rfl, q⟩
theorem g_bm {T : String} {r : V → List V → Hp → VK → Prop} {to : TE} {t : TA} (h : to σ H fun x H1 => tyV K T x H1 ∧ t σ H1 fun xs H2 => r x xs H2 Q) : tBM K T r to t σ H Q := h
theorem g_tyL {R : Prop} (h : SqL K H p xs) (q : R) : tyV K "list" (.ref p) H ∧ R := ⟨.inl ⟨rfl, _, h⟩, q⟩
theorem g_yes {Q : Bool → Hp → Prop} (h : Q true H) : tYes σ H Q := h
theorem g_seq {t u : TS} {D : Ends} (h : t { D with nx := u D } σ H) : tSeq t u D σ H := h
theorem g_asg {te : TE} {g : TG} {D : Ends} (h : te σ H fun x H1 => g x σ H1 D.nx) : tAsg te g D σ H := h
theorem g_name {n : Nat} {Q : L2.St → Hp → Prop} (h : Q (σ.set n (some v)) H) : gName n v σ H Q := h
theorem g_sub {to ti : TE} {t : TSet} {Q : L2.St → Hp → Prop} (h : to σ H fun o H1 => ti σ H1 fun i H2 => t o i v H2 fun H3 => Q σ H3) : gSub to ti t v σ H Q := h
theorem g_gtup {n : Nat} {t : TGs} {Q : L2.St → Hp → Prop} (h : SqT K H p xs) (l : xs.length = n) (q : t xs σ H Q) : gTup K n t (.ref p) σ H Q := ⟨p, xs, rfl, h, l, q⟩
theorem g_gcons {t : TG} {u : TGs} {Q : L2.St → Hp → Prop} (h : t x σ H fun σ' H' => u xs σ' H' Q) : gCons t u (x :: xs) σ H Q := ⟨x, xs, rfl, h⟩
theorem g_gnil {Q : L2.St → Hp → Prop} (h : Q σ H) : gNil [] σ H Q := ⟨rfl, h⟩
theorem g_seqA {te : TE} {g : TG} {u : TS} {D : Ends} (h : tAsg te g { D with nx := u D } σ H) : tSeq (tAsg te g) u D σ H := h
theorem g_seqR {c : TT} {te : TE} {v u : TS} {D : Ends} (h : tIfS c (tRet te) v { D with nx := u D } σ H) : tSeq (tIfS c (tRet te) v) u D σ H := h
theorem g_seqD {te : TE} {u : TS} {D : Ends} (h : tDrop te { D with nx := u D } σ H) : tSeq (tDrop te) u D σ H := h
theorem g_seqF {wi : TI} {g : TG} {b u : TS} {D : Ends} (h : tFor wi g b { D with nx := u D } σ H) : tSeq (tFor wi g b) u D σ H := h
theorem g_seqW {c : TT} {b u : TS} {D : Ends} (h : tWhile c b { D with nx := u D } σ H) : tSeq (tWhile c b) u D σ H := h
theorem g_ifS {c : TT} {t u : TS} {D : Ends} (h : c σ H fun b H1 => if b = true then t D σ H1 else u D σ H1) : tIfS c t u D σ H := h
theorem g_ret {te : TE} {D : Ends} (h : te σ H D.rt) : tRet te D σ H := h
theorem g_drop {te : TE} {D : Ends} (h : te σ H fun _ H1 => D.nx σ H1) : tDrop te D σ H := h
theorem g_next {D : Ends} (h : D.nx σ H) : tNext D σ H := h
theorem g_lstRg {te : L2.St → Hp → (Int → Int → Hp → Prop) → Prop} (h : te σ H fun a b H1 => RgOk a b ∧ ∀ q, Fr H1 q → Q (.ref q) (upd H1 q (.lst (rgV a b)))) : tLstRg te σ H Q := h
theorem g_rg2 {ta tb : TE} {Q : Int → Int → Hp → Prop} (h : ta σ H fun x H1 => tb σ H1 fun y H2 => ∃ i j, x = .int i ∧ y = .int j ∧ Q i j H2) : tRg2 ta tb σ H Q := h
theorem g_exII {R : Int → Int → Prop} (q : R i j) : ∃ i' j', V.int i = .int i' ∧ V.int j = .int j' ∧ R i' j' := ⟨i, j, rfl, rfl, q⟩
theorem g_rng1 {ta : TA} {R : It → Hp → Prop} (h : ta σ H fun vs H1 => ∃ j : Int, vs = [.int j] ∧ -(2 ^ 62) ≤ j ∧ j < 2 ^ 62 ∧ R (Itr 0 j.toNat) H1) : iRng1 ta σ H R := h
theorem g_rng1b {R : Int → Prop} (a : -(2 ^ 62) ≤ i) (b : i < 2 ^ 62) (q : R i) : ∃ j : Int, [V.int i] = [.int j] ∧ -(2 ^ 62) ≤ j ∧ j < 2 ^ 62 ∧ R j := ⟨i, rfl, a, b, q⟩
theorem g_rng2 {ta : TA} {R : It → Hp → Prop} (h : ta σ H fun vs H1 => ∃ i j : Int, vs = [.int i, .int j] ∧ (-(2 ^ 62) ≤ i ∧ i < 2 ^ 62 ∧ -(2 ^ 62) ≤ j ∧ j < 2 ^ 62) ∧ R (Itr i (j - i).toNat) H1) : iRng2 ta σ H R := h
theorem g_rng2b {R : Int → Int → Prop} (a : -(2 ^ 62) ≤ i ∧ i < 2 ^ 62 ∧ -(2 ^ 62) ≤ j ∧ j < 2 ^ 62) (q : R i j) : ∃ i' j' : Int, [V.int i, V.int j] = [.int i', .int j'] ∧ (-(2 ^ 62) ≤ i' ∧ i' < 2 ^ 62 ∧ -(2 ^ 62) ≤ j' ∧ j' < 2 ^ 62) ∧ R i' j' := ⟨i, j, rfl, a, q⟩
theorem g_iList {tl : TE} {R : It → Hp → Prop} (h : tl σ H fun x H1 => ∃ a, x = .ref a ∧ (∃ xs, SqL K H1 a xs) ∧ R (Itl K a) H1) : iList K tl σ H R := h
theorem g_iListb {R : Addr → Prop} (h : SqL K H p xs) (q : R p) : ∃ a, V.ref p = .ref a ∧ (∃ xs, SqL K H a xs) ∧ R a := ⟨p, rfl, ⟨xs, h⟩, q⟩
theorem g_iTup {tl : TE} {R : It → Hp → Prop} (h : tl σ H fun x H1 => ∃ a, x = .ref a ∧ (∃ xs, SqT K H1 a xs) ∧ R (Itt K a) H1) : iTup K tl σ H R := h
theorem g_iTupb {R : Addr → Prop} (h : SqT K H p xs) (q : R p) : ∃ a, V.ref p = .ref a ∧ (∃ xs, SqT K H a xs) ∧ R a := ⟨p, rfl, ⟨xs, h⟩, q⟩
theorem g_for {wi : TI} {g : TG} {tb : TS} {D : Ends} (h : wi σ H fun J H1 => ∃ W : Nat → Nat → L2.St → Hp → Prop, (∃ m, W 0 m σ H1) ∧ ∀ i m σ H, W i m σ H →
  (J.stop i H ∧ D.nx σ H) ∨ (J.go i H ∧ ∃ N : L2.St → Hp → Prop, (∀ σ' H', N σ' H' → ∃ m', m' < m ∧ W (i + 1) m' σ' H') ∧ ∀ x H', J.yld i H x H' → g x σ H' fun σ2 H2 => tb { D with nx := N, ct := N, bk := D.nx } σ2 H2)) : tFor wi g tb D σ H := h
theorem g_lc {wi : TI} {g : TG} {tt : TT} {te : TE} {vs : List Nat} (h : wi σ H fun J H1 => ∀ D, Fr H1 D → ∃ W : Nat → Nat → Hp → Prop, (∃ m, W 0 m (upd H1 D (.lst []))) ∧ ∀ i m H, W i m H →
  (J.stop i H ∧ Q (.ref D) H) ∨ (J.go i H ∧ ∃ Nx : Hp → Prop, (∀ H', Nx H' → ∃ m', m' < m ∧ W (i + 1) m' H') ∧ ∀ x H', J.yld i H x H' → g x (wipe σ vs) H' fun σ2 H2 => wipe σ2 vs = wipe σ vs ∧ tt σ2 H2 fun b H3 =>
    if b = true then te σ2 H3 fun y H4 => ∃ acc, H4 D = some (.lst acc) ∧ acc.length < sizeLine ∧ Nx (upd H4 D (.lst (acc ++ [y]))) else Nx H3)) : tLc wi g tt te vs σ H Q := h
theorem g_var {n : Nat} (h : σ[n]? = some (some v)) (q : Q v H) : tVar n σ H Q := ⟨v, h, q⟩
theorem g_rI0 {g : Int → Int → V} (q : Q (g i j) H) : rI0 g (.int i) (.int j) H Q := ⟨i, j, rfl, rfl, q⟩
theorem g_rI {C : Int → Int → Prop} {g : Int → Int → V} (c : C i j) (q : Q (g i j) H) : rI C g (.int i) (.int j) H Q := ⟨i, j, rfl, rfl, c, q⟩
theorem g_pow6 (q : Q (.int 1000000) H) : rPow (.int 10) (.int 6) H Q := ⟨10, 6, rfl, rfl, ⟨by decide, by decide, by decide⟩, q⟩
theorem g_pow12 (q : Q (.int 1000000000000) H) : rPow (.int 10) (.int 12) H Q := ⟨10, 12, rfl, rfl, ⟨by decide, by decide, by decide⟩, q⟩
theorem g_pow18 (q : Q (.int 1000000000000000000) H) : rPow (.int 10) (.int 18) H Q := ⟨10, 18, rfl, rfl, ⟨by decide, by decide, by decide⟩, q⟩
theorem g_eq (c : scal x y = true) (q : Q (.bl (decide (x = y))) H) : rEq x y H Q := ⟨c, q⟩
theorem g_ne (c : scal x y = true) (q : Q (.bl (!decide (x = y))) H) : rNe x y H Q := ⟨c, q⟩
theorem g_ixL (h : SqL K H p xs) (a : atI xs i = some v) (q : Q v H) : rIxL K (.ref p) (.int i) H Q := ⟨p, xs, i, v, rfl, rfl, h, a, q⟩
theorem g_ixT (h : SqT K H p xs) (a : atI xs i = some v) (q : Q v H) : rIxT K (.ref p) (.int i) H Q := ⟨p, xs, i, v, rfl, rfl, h, a, q⟩
theorem g_setL {Q : Hp → Prop} {n : Nat} (h : H p = some (.lst xs)) (a : ixN xs.length i = some n) (q : Q (upd H p (.lst (xs.set n v)))) : rSetL (.ref p) (.int i) v H Q := ⟨p, xs, i, n, rfl, rfl, h, a, q⟩
theorem g_len (h : SqL K H p xs ∨ SqT K H p xs) (q : Q (.int xs.length) H) : rLen K [.ref p] H Q := ⟨p, xs, rfl, h, q⟩
theorem g_test {t : TE} {Q : Bool → Hp → Prop} (h : t σ H fun x H' => ∃ k, x = .bl k ∧ Q k H') : tTest t σ H Q := h
theorem g_bl {R : Bool → Prop} {k : Bool} (q : R k) : ∃ k', V.bl k = .bl k' ∧ R k' := ⟨k, rfl, q⟩
theorem g_sz {n : Nat} {R : Prop} (z : n ≤ sizeLine) (q : R) : n ≤ sizeLine ∧ R := ⟨z, q⟩
theorem g_slL {lo hi : Option Int} (h : SqL K H p xs) (q : ∀ a, Fr H a → Q (.ref a) (upd H a (.lst (cutV xs lo hi)))) : rSlL K (.ref p) lo hi H Q := ⟨p, xs, rfl, h, q⟩
theorem g_listOf (h : SqL K H p xs ∨ SqT K H p xs) (q : ∀ a, Fr H a → Q (.ref a) (upd H a (.lst xs))) : rListOf K [.ref p] H Q := ⟨p, xs, rfl, h, q⟩
theorem g_append (h : H p = some (.lst xs)) (z : xs.length < sizeLine) (q : Q .non (upd H p (.lst (xs ++ [y])))) : rAppend (.ref p) [y] H Q := ⟨p, xs, y, rfl, rfl, h, z, q⟩
theorem g_popAt {n : Nat} (h : H p = some (.lst xs)) (b1 : -(2 ^ 63) ≤ i) (b2 : i < 2 ^ 63) (s : seqIndex? i xs.length = some n) (a : xs[n]? = some v) (q : Q v (upd H p (.lst (xs.eraseIdx n)))) : rPopAt (.ref p) [.int i] H Q := ⟨p, xs, i, n, v, rfl, rfl, h, b1, b2, s, a, q⟩
theorem g_isN (q : Q (.bl (decide (x = .non))) H) : rIsN x .non H Q := ⟨rfl, q⟩
theorem g_notN (q : Q (.bl (!decide (x = .non))) H) : rNotN x .non H Q := ⟨rfl, q⟩
theorem g_abs (q : Q (.int (if i < 0 then -i else i)) H) : rAbs [.int i] H Q := ⟨i, rfl, q⟩
theorem g_neg (q : Q (.int (-i)) H) : rNeg (.int i) H Q := ⟨i, rfl, q⟩
end
section
variable {K : PySem.W.Frag} {H : Hp} {Q : VK} {i : Int} {p : Addr} {xs : List V}
theorem g_isi_int_int  (q : Q (.bl true) H) : rIsi K [.int i, .ty "int"] H Q := ⟨_, _, .type "int", .type "int", true, rfl, .ty _, .base (.int i), kit_ty (by decide +kernel), q⟩
theorem g_isi_int_bool  (q : Q (.bl false) H) : rIsi K [.int i, .ty "bool"] H Q := ⟨_, _, .type "int", .type "bool", false, rfl, .ty _, .base (.int i), kit_ty (by decide +kernel), q⟩
theorem g_isi_int_str  (q : Q (.bl false) H) : rIsi K [.int i, .ty "str"] H Q := ⟨_, _, .type "int", .type "str", false, rfl, .ty _, .base (.int i), kit_ty (by decide +kernel), q⟩
theorem g_isi_int_list  (q : Q (.bl false) H) : rIsi K [.int i, .ty "list"] H Q := ⟨_, _, .type "int", .type "list", false, rfl, .ty _, .base (.int i), kit_ty (by decide +kernel), q⟩
theorem g_isi_int_tuple  (q : Q (.bl false) H) : rIsi K [.int i, .ty "tuple"] H Q := ⟨_, _, .type "int", .type "tuple", false, rfl, .ty _, .base (.int i), kit_ty (by decide +kernel), q⟩
theorem g_isi_bl_int {k : Bool} (q : Q (.bl true) H) : rIsi K [.bl k, .ty "int"] H Q := ⟨_, _, .type "bool", .type "int", true, rfl, .ty _, .base (.bl k), kit_ty (by decide +kernel), q⟩
theorem g_isi_bl_bool {k : Bool} (q : Q (.bl true) H) : rIsi K [.bl k, .ty "bool"] H Q := ⟨_, _, .type "bool", .type "bool", true, rfl, .ty _, .base (.bl k), kit_ty (by decide +kernel), q⟩
theorem g_isi_bl_str {k : Bool} (q : Q (.bl false) H) : rIsi K [.bl k, .ty "str"] H Q := ⟨_, _, .type "bool", .type "str", false, rfl, .ty _, .base (.bl k), kit_ty (by decide +kernel), q⟩
theorem g_isi_bl_list {k : Bool} (q : Q (.bl false) H) : rIsi K [.bl k, .ty "list"] H Q := ⟨_, _, .type "bool", .type "list", false, rfl, .ty _, .base (.bl k), kit_ty (by decide +kernel), q⟩
theorem g_isi_bl_tuple {k : Bool} (q : Q (.bl false) H) : rIsi K [.bl k, .ty "tuple"] H Q := ⟨_, _, .type "bool", .type "tuple", false, rfl, .ty _, .base (.bl k), kit_ty (by decide +kernel), q⟩
theorem g_isi_str_int {z : Str} (q : Q (.bl false) H) : rIsi K [.str z, .ty "int"] H Q := ⟨_, _, .type "str", .type "int", false, rfl, .ty _, .base (.str z), kit_ty (by decide +kernel), q⟩
theorem g_isi_str_bool {z : Str} (q : Q (.bl false) H) : rIsi K [.str z, .ty "bool"] H Q := ⟨_, _, .type "str", .type "bool", false, rfl, .ty _, .base (.str z), kit_ty (by decide +kernel), q⟩
theorem g_isi_str_str {z : Str} (q : Q (.bl true) H) : rIsi K [.str z, .ty "str"] H Q := ⟨_, _, .type "str", .type "str", true, rfl, .ty _, .base (.str z), kit_ty (by decide +kernel), q⟩
theorem g_isi_str_list {z : Str} (q : Q (.bl false) H) : rIsi K [.str z, .ty "list"] H Q := ⟨_, _, .type "str", .type "list", false, rfl, .ty _, .base (.str z), kit_ty (by decide +kernel), q⟩
theorem g_isi_str_tuple {z : Str} (q : Q (.bl false) H) : rIsi K [.str z, .ty "tuple"] H Q := ⟨_, _, .type "str", .type "tuple", false, rfl, .ty _, .base (.str z), kit_ty (by decide +kernel), q⟩
theorem g_isi_non_int  (q : Q (.bl false) H) : rIsi K [.non, .ty "int"] H Q := ⟨_, _, .type "NoneType", .type "int", false, rfl, .ty _, .base .non, kit_ty (by decide +kernel), q⟩
theorem g_isi_non_bool  (q : Q (.bl false) H) : rIsi K [.non, .ty "bool"] H Q := ⟨_, _, .type "NoneType", .type "bool", false, rfl, .ty _, .base .non, kit_ty (by decide +kernel), q⟩
theorem g_isi_non_str  (q : Q (.bl false) H) : rIsi K [.non, .ty "str"] H Q := ⟨_, _, .type "NoneType", .type "str", false, rfl, .ty _, .base .non, kit_ty (by decide +kernel), q⟩
theorem g_isi_non_list  (q : Q (.bl false) H) : rIsi K [.non, .ty "list"] H Q := ⟨_, _, .type "NoneType", .type "list", false, rfl, .ty _, .base .non, kit_ty (by decide +kernel), q⟩
theorem g_isi_non_tuple  (q : Q (.bl false) H) : rIsi K [.non, .ty "tuple"] H Q := ⟨_, _, .type "NoneType", .type "tuple", false, rfl, .ty _, .base .non, kit_ty (by decide +kernel), q⟩
theorem g_isi_lst_int (h : H p = some (.lst xs)) (q : Q (.bl false) H) : rIsi K [.ref p, .ty "int"] H Q := ⟨_, _, .type "list", .type "int", false, rfl, .ty _, .base (.lst h), kit_ty (by decide +kernel), q⟩
theorem g_isi_lst_bool (h : H p = some (.lst xs)) (q : Q (.bl false) H) : rIsi K [.ref p, .ty "bool"] H Q := ⟨_, _, .type "list", .type "bool", false, rfl, .ty _, .base (.lst h), kit_ty (by decide +kernel), q⟩
theorem g_isi_lst_str (h : H p = some (.lst xs)) (q : Q (.bl false) H) : rIsi K [.ref p, .ty "str"] H Q := ⟨_, _, .type "list", .type "str", false, rfl, .ty _, .base (.lst h), kit_ty (by decide +kernel), q⟩
theorem g_isi_lst_list (h : H p = some (.lst xs)) (q : Q (.bl true) H) : rIsi K [.ref p, .ty "list"] H Q := ⟨_, _, .type "list", .type "list", true, rfl, .ty _, .base (.lst h), kit_ty (by decide +kernel), q⟩
theorem g_isi_lst_tuple (h : H p = some (.lst xs)) (q : Q (.bl false) H) : rIsi K [.ref p, .ty "tuple"] H Q := ⟨_, _, .type "list", .type "tuple", false, rfl, .ty _, .base (.lst h), kit_ty (by decide +kernel), q⟩
theorem g_isi_tup_int (h : H p = some (.tup xs)) (q : Q (.bl false) H) : rIsi K [.ref p, .ty "int"] H Q := ⟨_, _, .type "tuple", .type "int", false, rfl, .ty _, .base (.tup h), kit_ty (by decide +kernel), q⟩
theorem g_isi_tup_bool (h : H p = some (.tup xs)) (q : Q (.bl false) H) : rIsi K [.ref p, .ty "bool"] H Q := ⟨_, _, .type "tuple", .type "bool", false, rfl, .ty _, .base (.tup h), kit_ty (by decide +kernel), q⟩
theorem g_isi_tup_str (h : H p = some (.tup xs)) (q : Q (.bl false) H) : rIsi K [.ref p, .ty "str"] H Q := ⟨_, _, .type "tuple", .type "str", false, rfl, .ty _, .base (.tup h), kit_ty (by decide +kernel), q⟩
theorem g_isi_tup_list (h : H p = some (.tup xs)) (q : Q (.bl false) H) : rIsi K [.ref p, .ty "list"] H Q := ⟨_, _, .type "tuple", .type "list", false, rfl, .ty _, .base (.tup h), kit_ty (by decide +kernel), q⟩
theorem g_isi_tup_tuple (h : H p = some (.tup xs)) (q : Q (.bl true) H) : rIsi K [.ref p, .ty "tuple"] H Q := ⟨_, _, .type "tuple", .type "tuple", true, rfl, .ty _, .base (.tup h), kit_ty (by decide +kernel), q⟩
end
/-! ### promises by the number of arguments -/
abbrev Sp0 (p : Hp → VK → XK → Prop) : Sp := fun vs H Q E => vs = [] ∧ p H Q E
abbrev Sp1 (p : V → Hp → VK → XK → Prop) : Sp := fun vs H Q E => ∃ a, vs = [a] ∧ p a H Q E
abbrev Sp2 (p : V → V → Hp → VK → XK → Prop) : Sp := fun vs H Q E => ∃ a b, vs = [a, b] ∧ p a b H Q E
abbrev Sp3 (p : V → V → V → Hp → VK → XK → Prop) : Sp := fun vs H Q E => ∃ a b c, vs = [a, b, c] ∧ p a b c H Q E
abbrev Sp4 (p : V → V → V → V → Hp → VK → XK → Prop) : Sp := fun vs H Q E => ∃ a b c d, vs = [a, b, c, d] ∧ p a b c d H Q E
abbrev Sp5 (p : V → V → V → V → V → Hp → VK → XK → Prop) : Sp := fun vs H Q E => ∃ a b c d e, vs = [a, b, c, d, e] ∧ p a b c d e H Q E

/-! ### heaps: all but some places is kept -/
/-- all that stood stands, but what is at the places of L -/
def Kp (L : List Addr) (H H' : Hp) : Prop := ∀ a o, H a = some o → a ∉ L → H' a = some o
theorem Kp.refl (L : List Addr) (H : Hp) : Kp L H H := fun _ _ h _ => h
theorem Kp.trans {L : List Addr} {H H1 H2 : Hp} (a : Kp L H H1) (b : Kp L H1 H2) : Kp L H H2 := fun c o h n => b c o (a c o h n) n
theorem Same.kp {H H' : Hp} (a : Same H H') (L : List Addr) : Kp L H H' := fun c o e _ => a c o e
theorem same_new {H : Hp} {p : Addr} {o : HO} (h : Fr H p) : Same H (upd H p o) := fun b x e => by
  rw [upd_ne (ne_of_none e h)]
  exact e
theorem kp_upd {H : Hp} {p : Addr} {o : HO} {L : List Addr} (h : p ∈ L) : Kp L H (upd H p o) := fun b x e n => by
  rw [upd_ne fun z => n (by rw [z]; exact h)]
  exact e
theorem Kp.new {L : List Addr} {H H' : Hp} {p : Addr} {o : HO} (a : Kp L H H') (h : Fr H' p) : Kp L H (upd H' p o) := a.trans (Same.kp (same_new h) L)
theorem Kp.put {L : List Addr} {H H' : Hp} {p : Addr} {o : HO} (a : Kp L H H') (h : p ∈ L) : Kp L H (upd H' p o) := a.trans (kp_upd h)
/-- a place that H did not know may change -/
theorem Kp.own {L : List Addr} {H H' : Hp} {p : Addr} {o : HO} (a : Kp L H H') (h : Fr H p) : Kp L H (upd H' p o) := fun b x e n => by
  rw [upd_ne (ne_of_none e h)]
  exact a b x e n
theorem SqT.kp {K : PySem.W.Frag} {L : List Addr} {H H' : Hp} {a : Addr} {xs : List V} (k : Kp L H H') (n : a ∉ L) (h : SqT K H a xs) : SqT K H' a xs := by
  rcases h with (h | ⟨o, h⟩) | h
  · exact .inl (.inl (k _ _ h n))
  · exact .inl (.inr ⟨o, k _ _ h n⟩)
  · exact .inr h
theorem SqL.kp {K : PySem.W.Frag} {L : List Addr} {H H' : Hp} {a : Addr} {xs : List V} (k : Kp L H H') (n : a ∉ L) (h : SqL K H a xs) : SqL K H' a xs := by
  rcases h with (h | ⟨o, h⟩) | h
  · exact .inl (.inl (k _ _ h n))
  · exact .inl (.inr ⟨o, k _ _ h n⟩)
  · exact .inr h
theorem Same.seqT {K : PySem.W.Frag} {H H' : Hp} {a : Addr} {xs : List V} (e : Same H H') (h : SqT K H a xs) : SqT K H' a xs := SqT.kp (Same.kp e []) (by simp) h
theorem get_same {H H' : Hp} {p : Addr} {o : HO} (e : Same H H') (h : H p = some o) : H' p = some o := e p o h
theorem get_kp {L : List Addr} {H H' : Hp} {p : Addr} {o : HO} (e : Kp L H H') (h : H p = some o) (n : p ∉ L) : H' p = some o := e p o h n
theorem at_new {H : Hp} {p a : Addr} {o u : HO} (hp : Fr H p) (h : H a = some o) : upd H p u a = some o := by
  rw [upd_ne (ne_of_none h hp)]
  exact h
theorem at_ne {H : Hp} {p a : Addr} {o u : HO} (n : a ≠ p) (h : H a = some o) : upd H p u a = some o := by
  rw [upd_ne n]
  exact h
theorem ne_new {H : Hp} {p a : Addr} {o : HO} (hp : Fr H p) (h : H a = some o) : a ≠ p := ne_of_none h hp
theorem ne_new' {H : Hp} {p a : Addr} {o : HO} (hp : Fr H p) (h : H a = some o) : p ≠ a := (ne_of_none h hp).symm
theorem sm_new {H H' : Hp} {p : Addr} {o : HO} (hp : Fr H' p) (h : Same H H') : Same H (upd H' p o) := h.trans (same_new hp)
theorem sm_tr {H H1 H2 : Hp} (h : Same H1 H2) (e : Same H H1) : Same H H2 := e.trans h
theorem sm_own {H H' : Hp} {p : Addr} {o : HO} (hp : Fr H p) (h : Same H H') : Same H (upd H' p o) := fun b x e => at_ne (ne_of_none e hp) (h b x e)
theorem fr_of {H H' : Hp} {p : Addr} (h : Fr H' p) (e : Same H H') : Fr H p := e.free h
theorem sql_new {K : PySem.W.Frag} {H : Hp} {p a : Addr} {o : HO} {xs : List V} (hp : Fr H p) (h : SqL K H a xs) : SqL K (upd H p o) a xs := Same.seq (same_new hp) h
theorem sql_same {K : PySem.W.Frag} {H H' : Hp} {a : Addr} {xs : List V} (e : Same H H') (h : SqL K H a xs) : SqL K H' a xs := Same.seq e h
theorem sqt_new {K : PySem.W.Frag} {H : Hp} {p a : Addr} {o : HO} {xs : List V} (hp : Fr H p) (h : SqT K H a xs) : SqT K (upd H p o) a xs := Same.seqT (same_new hp) h
theorem sqt_same {K : PySem.W.Frag} {H H' : Hp} {a : Addr} {xs : List V} (e : Same H H') (h : SqT K H a xs) : SqT K H' a xs := Same.seqT e h
theorem sq_or {K : PySem.W.Frag} {H : Hp} {p : Addr} {xs : List V} (h : H p = some (.lst xs)) : SqL K H p xs ∨ SqT K H p xs := .inl (SqL.of h)
theorem sq_orT {K : PySem.W.Frag} {H : Hp} {p : Addr} {xs : List V} (h : H p = some (.tup xs)) : SqL K H p xs ∨ SqT K H p xs := .inr (SqT.of h)
theorem atI_map {xs : List Int} {i : Int} {v : Int} (h : atI xs i = some v) : atI (xs.map V.int) i = some (V.int v) := by
  obtain ⟨j, h1, h2, h3, h4, h5⟩ := atI_get h
  unfold atI at h ⊢
  rw [List.length_map]
  cases e : ixN xs.length i with
  | none => rw [e] at h; cases h
  | some j =>
    rw [e] at h
    have h' : xs[j]? = some v := h
    show (xs.map V.int)[j]? = _
    rw [List.getElem?_map, h']
    rfl
theorem atI_zero {x : V} {r : List V} : atI (x :: r) 0 = some x := by
  have h : (x :: r)[0]? = some x := rfl
  exact atI_nat (j := 0) h
theorem ite_t {c : Bool} {A B : Prop} (h : c = true) (x : A) : if c = true then A else B := by
  rw [if_pos h]
  exact x
theorem ite_f {c : Bool} {A B : Prop} (h : c = false) (x : B) : if c = true then A else B := by
  rw [h, if_neg Bool.false_ne_true]
  exact x
theorem ite_dt {p : Prop} [Decidable p] {A B : Prop} (h : p) (x : A) : if decide p = true then A else B := ite_t (decide_eq_true h) x
theorem ite_df {p : Prop} [Decidable p] {A B : Prop} (h : ¬ p) (x : B) : if decide p = true then A else B := ite_f (decide_eq_false h) x
theorem ite_b {c : Bool} {A B : Prop} (h1 : c = true → A) (h2 : c = false → B) : if c = true then A else B := by
  cases c with
  | true => rw [if_pos rfl]; exact h1 rfl
  | false => rw [if_neg Bool.false_ne_true]; exact h2 rfl
theorem ite_d {p : Prop} [Decidable p] {A B : Prop} (h1 : p → A) (h2 : ¬ p → B) : if decide p = true then A else B := ite_b (fun h => h1 (of_decide_eq_true h)) fun h => h2 (of_decide_eq_false h)
theorem ite_nt {A B : Prop} (x : B) : if (!true) = true then A else B := ite_f rfl x
theorem ite_nf {A B : Prop} (x : A) : if (!false) = true then A else B := ite_t rfl x
theorem ite_nd {p : Prop} [Decidable p] {A B : Prop} (h1 : p → B) (h2 : ¬ p → A) : if (!decide p) = true then A else B := ite_b (fun h => h2 (by simpa using h)) fun h => h1 (by simpa using h)
theorem ite_ndt {p : Prop} [Decidable p] {A B : Prop} (h : p) (x : B) : if (!decide p) = true then A else B := ite_f (by simpa using h) x
theorem ite_ndf {p : Prop} [Decidable p] {A B : Prop} (h : ¬ p) (x : A) : if (!decide p) = true then A else B := ite_t (by simpa using h) x
theorem int_eq {i j : Int} : decide (V.int i = V.int j) = decide (i = j) := by
  by_cases h : i = j
  · subst h; simp
  · simp [h]
theorem str_eq {i j : Str} : decide (V.str i = V.str j) = decide (i = j) := by
  by_cases h : i = j
  · subst h; simp
  · simp [h]
theorem map_get {α : Type} {f : α → V} {ns : List α} {i : Nat} {y : V} (h : (ns.map f)[i]? = some y) : ∃ z, y = f z ∧ ns[i]? = some z := by
  rw [List.getElem?_map] at h
  cases e : ns[i]? with
  | none => rw [e] at h; cases h
  | some z => rw [e] at h; exact ⟨z, (Option.some.inj h).symm, rfl⟩
theorem cut_to {xs : List V} {n : Int} (h : 0 ≤ n) : cutV xs none (some n) = xs.take n.toNat := by
  obtain ⟨k, rfl⟩ : ∃ k : Nat, n = k := ⟨n.toNat, by omega⟩
  unfold cutV
  rw [HT.sIx_none, HT.sIx_nat]
  simp only [List.drop_zero, Nat.sub_zero, Int.toNat_natCast]
  rw [List.take_eq_take_iff]
  simp
theorem cut_from {xs : List V} {n : Int} (h : 0 ≤ n) : cutV xs (some n) none = xs.drop n.toNat := by
  obtain ⟨k, rfl⟩ : ∃ k : Nat, n = k := ⟨n.toNat, by omega⟩
  unfold cutV
  rw [HT.sIx_none, HT.sIx_nat]
  simp only [Int.toNat_natCast]
  by_cases hk : k ≤ xs.length
  · rw [Nat.min_eq_left hk, List.take_of_length_le (by rw [List.length_drop]; omega)]
  · rw [Nat.min_eq_right (by omega), List.drop_of_length_le (by omega), List.drop_of_length_le (by omega)]
    simp
theorem cut_mid {xs : List V} {n m : Int} (h : 0 ≤ n) (h' : 0 ≤ m) : cutV xs (some n) (some m) = (xs.take m.toNat).drop n.toNat := by
  obtain ⟨k, rfl⟩ : ∃ k : Nat, n = k := ⟨n.toNat, by omega⟩
  obtain ⟨l, rfl⟩ : ∃ l : Nat, m = l := ⟨m.toNat, by omega⟩
  unfold cutV
  rw [HT.sIx_nat, HT.sIx_nat]
  simp only [Int.toNat_natCast]
  rw [List.drop_take]
  by_cases hk : k ≤ xs.length
  · rw [Nat.min_eq_left hk, List.take_eq_take_iff]
    simp
    omega
  · rw [Nat.min_eq_right (show xs.length ≤ k by omega), List.drop_of_length_le (Nat.le_refl _), List.drop_of_length_le (by omega)]
    simp
theorem at_k0 {xs : List V} {v : V} (h : xs[0]? = some v) : atI xs 0 = some v := atI_nat (j := 0) h
theorem at_k1 {xs : List V} {v : V} (h : xs[1]? = some v) : atI xs 1 = some v := atI_nat (j := 1) h
theorem at_k2 {xs : List V} {v : V} (h : xs[2]? = some v) : atI xs 2 = some v := atI_nat (j := 2) h
theorem at_k3 {xs : List V} {v : V} (h : xs[3]? = some v) : atI xs 3 = some v := atI_nat (j := 3) h
theorem ix_k0 {n : Nat} (h : 0 < n) : ixN n 0 = some 0 := by
  unfold ixN
  simp
  omega
theorem ix_k2 {n : Nat} (h : 2 < n) : ixN n 2 = some 2 := by
  unfold ixN
  simp
  omega
/-- one of a written list's items -/
theorem pick {xs : List V} {i : Int} (h0 : 0 ≤ i) (h : i < xs.length) : ∃ v, atI xs i = some v ∧ v ∈ xs := by
  have hj : i.toNat < xs.length := by omega
  have e : ((i.toNat : Nat) : Int) = i := by omega
  exact ⟨xs[i.toNat], by
    have h := atI_nat (List.getElem?_eq_getElem hj)
    rwa [e] at h, List.getElem_mem hj⟩
theorem g_pick2 {K : PySem.W.Frag} {H : Hp} {Q : VK} {p : Addr} {a b w : Int} (h : SqL K H p [.int a, .int b]) (h0 : 0 ≤ w) (h1 : w < 2) (q : ∀ v : Int, v = a ∨ v = b → Q (.int v) H) : rIxL K (.ref p) (.int w) H Q := by
  obtain ⟨v, hv, hm⟩ := pick (xs := [.int a, .int b]) h0 h1
  simp only [List.mem_cons, List.not_mem_nil, or_false] at hm
  rcases hm with rfl | rfl <;> exact ⟨p, _, w, _, rfl, rfl, h, hv, q _ (by simp)⟩
theorem g_pick3 {K : PySem.W.Frag} {H : Hp} {Q : VK} {p : Addr} {a b c w : Int} (h : SqL K H p [.int a, .int b, .int c]) (h0 : 0 ≤ w) (h1 : w < 3) (q : ∀ v : Int, v = a ∨ v = b ∨ v = c → Q (.int v) H) : rIxL K (.ref p) (.int w) H Q := by
  obtain ⟨v, hv, hm⟩ := pick (xs := [.int a, .int b, .int c]) h0 h1
  simp only [List.mem_cons, List.not_mem_nil, or_false] at hm
  rcases hm with rfl | rfl | rfl <;> exact ⟨p, _, w, _, rfl, rfl, h, hv, q _ (by simp)⟩
theorem g_pick5 {K : PySem.W.Frag} {H : Hp} {Q : VK} {p : Addr} {a b c d e w : Int} (h : SqL K H p [.int a, .int b, .int c, .int d, .int e]) (h0 : 0 ≤ w) (h1 : w < 5) (q : ∀ v : Int, v = a ∨ v = b ∨ v = c ∨ v = d ∨ v = e → Q (.int v) H) : rIxL K (.ref p) (.int w) H Q := by
  obtain ⟨v, hv, hm⟩ := pick (xs := [.int a, .int b, .int c, .int d, .int e]) h0 h1
  simp only [List.mem_cons, List.not_mem_nil, or_false] at hm
  rcases hm with rfl | rfl | rfl | rfl | rfl <;> exact ⟨p, _, w, _, rfl, rfl, h, hv, q _ (by simp)⟩
theorem g_pick {K : PySem.W.Frag} {H : Hp} {Q : VK} {p : Addr} {xs : List V} {w : Int} (h : SqL K H p xs) (h0 : 0 ≤ w) (h1 : w < xs.length) (q : ∀ v, v ∈ xs → Q v H) : rIxL K (.ref p) (.int w) H Q := by
  obtain ⟨v, hv, hm⟩ := pick (xs := xs) h0 h1
  exact ⟨p, _, w, _, rfl, rfl, h, hv, q _ hm⟩
theorem seq_zero {n : Nat} (h : 0 < n) : seqIndex? 0 n = some 0 := by
  unfold seqIndex?
  simp
  omega
theorem atI_ex {xs : List Int} {i : Int} (h0 : 0 ≤ i) (h : i < xs.length) : ∃ v, atI xs i = some v := by
  have hj : i.toNat < xs.length := by omega
  have e : ((i.toNat : Nat) : Int) = i := by omega
  exact ⟨xs[i.toNat], by
    have h := atI_nat (List.getElem?_eq_getElem hj)
    rwa [e] at h⟩
theorem kp_tr {L : List Addr} {H H1 H2 : Hp} (b : Kp L H1 H2) (a : Kp L H H1) : Kp L H H2 := a.trans b
theorem kp_sm {L : List Addr} {H H1 H2 : Hp} (b : Same H1 H2) (a : Kp L H H1) : Kp L H H2 := a.trans (Same.kp b L)
theorem kp_own {L : List Addr} {H H' : Hp} {p : Addr} {o : HO} (hp : Fr H p) (a : Kp L H H') : Kp L H (upd H' p o) := Kp.own a hp
theorem kp_new {L : List Addr} {H H' : Hp} {p : Addr} {o : HO} (hp : Fr H' p) (a : Kp L H H') : Kp L H (upd H' p o) := Kp.new a hp
theorem fr_kp {L : List Addr} {H H' : Hp} {p : Addr} (h : Fr H' p) (e : Kp L H H') (n : p ∉ L) : Fr H p := by
  replace h : H' p = none := h
  cases hH : H p with
  | none => exact hH
  | some o => rw [e p o hH n] at h; cases h
theorem fr_new {H : Hp} {p q : Addr} {o : HO} (h : Fr (upd H q o) p) : Fr H p := by
  replace h : upd H q o p = none := h
  show H p = none
  by_cases e : p = q
  · rw [e, upd_same] at h; cases h
  · rwa [upd_ne e] at h
theorem g_all {K : PySem.W.Frag} {H : Hp} {Q : VK} {p : Addr} {bs : List Bool} (h : SqL K H p (bs.map V.bl)) (q : Q (.bl (bs.all id)) H) : rAll K [.ref p] H Q := ⟨p, bs, rfl, h, q⟩
theorem g_any {K : PySem.W.Frag} {H : Hp} {Q : VK} {p : Addr} {bs : List Bool} (h : SqL K H p (bs.map V.bl)) (q : Q (.bl (bs.any id)) H) : rAny K [.ref p] H Q := ⟨p, bs, rfl, h, q⟩
theorem g_lenA {K : PySem.W.Frag} {H : Hp} {Q : VK} {x : V} {n : Nat} (h : LenV K x H n) (q : Q (.int n) H) : rLenA K [x] H Q := ⟨x, n, rfl, h, q⟩
theorem cut_init {xs : List V} : cutV xs none (some (-1)) = xs.take (xs.length - 1) := by
  unfold cutV
  have e : HT.sIx xs.length xs.length (some (-1)) = xs.length - 1 := by
    show (if (-1 : Int) < 0 then ((-1 : Int) + (xs.length : Int)).toNat else min (-1 : Int).toNat xs.length) = _
    rw [if_pos (by decide)]
    omega
  rw [HT.sIx_none, e, List.drop_zero, Nat.sub_zero]
theorem g_cat {H : Hp} {Q : VK} {p b : Addr} {xs zs : List V} (h : H p = some (.lst xs)) (h2 : H b = some (.lst zs)) (z : xs.length + zs.length ≤ sizeLine) (q : ∀ l, Fr H l → Q (.ref l) (upd H l (.lst (xs ++ zs)))) : rCat (.ref p) (.ref b) H Q := ⟨p, b, xs, zs, rfl, rfl, h, h2, z, q⟩
theorem g_rng3 {σ : L2.St} {H : Hp} {ta : TA} {R : It → Hp → Prop} (h : ta σ H fun vs H1 => ∃ (i j c : Int) (n : Nat), vs = [.int i, .int j, .int c] ∧ RgC i j c n ∧ R (Itc i c n) H1) : iRng3 ta σ H R := h
theorem g_pickL {K : PySem.W.Frag} {H : Hp} {Q : VK} {p : Addr} {xs : List V} {w n : Int} (h : H p = some (.lst xs)) (h0 : 0 ≤ w) (h1 : w < n) (e : n = (xs.length : Nat)) (q : ∀ v, v ∈ xs → Q v H) : rIxL K (.ref p) (.int w) H Q := g_pick (SqL.of h) h0 (by rw [← e]; exact h1) q
/-! YG: defs that are only ever run while no display of a container goes on: what repr of lists and tuples wants. -/
open PySem PySem.Spec PyProof.Rows L2
/-- room, and no display under way -/
structure RoomG (k : Nat) (A : Around) : Prop where
  rm : Room k A
  no : A.guards = some []
theorem RoomG.mono {i k : Nat} {A : Around} (r : RoomG k A) (h : i ≤ k) : RoomG i A := ⟨r.rm.mono h, r.no⟩
theorem RoomG.deeper {k : Nat} {A : Around} (r : RoomG (k + 1) A) (v : Env) : RoomG k (A.deeper v) := ⟨r.rm.deeper v, r.no⟩
theorem RoomG.units {k : Nat} {A : Around} (r : RoomG k A) : A.units + 64 < cLine := r.rm.units
theorem make_guards {A : Around} {C : Addr} {us : List Value} : (A.under (.builtin "type.__call__" ⟨.ref C :: us, []⟩)).guards = A.guards := by
  have e : (Code.builtin "type.__call__" ⟨.ref C :: us, []⟩).guards = [] := by
    unfold Code.guards
    rw [if_neg]
    simp [Code.isGuard, guardIds]
  show pushGuards (Code.builtin "type.__call__" ⟨.ref C :: us, []⟩).guards A.guards = A.guards
  rw [e, pushGuards_eq]
  cases A.guards <;> simp
theorem RoomG.make {k : Nat} {A : Around} (r : RoomG (k + 1) A) (C : Addr) (us : List Value) : RoomG k (A.under (.builtin "type.__call__" ⟨.ref C :: us, []⟩)) := ⟨r.rm.make C us [], make_guards.trans r.no⟩
/-- a def keeps its promise wherever there is room and no display under way -/
structure FnG (P : Program) (w : World) (K : PySem.W.Frag) (mg : Str → Option Value) (base : Heap) (CX : CXT) (k : Nat) (f : Addr) (fd : FuncData) (ps : List Str) (sp : Sp) : Prop where
  len : ∀ vs H Q E, sp vs H Q E → vs.length = ps.length
  run : ∀ (A : Around) (outer : List Env) (s : Shared) (H : Hp) (args : Args) (us : List Value) (vs : List V) (Q : VK) (E : XK), RoomG k A → Env0 P w K mg base A outer s H → BindsTo s fd args (ps.zip us) → Vals vs us →
    sp vs H Q E → codeAny (model P w) A (.call (.ref f) args) (CR CX outer P w H s Q E) s
section
variable {X : Cx} {CX : CXT} {k : Nat} {f C : Addr} {fd : FuncData} {ps : List Str} {sp : Sp} {dvs : List V} {ds : List Value} {E : XK} {x m : Str} {p pos apos : Pos} {e o : Expr} {es : List Expr} {ta : TE} {t : TA} {pins : List (Addr × Obj)} {σ : L2.St} {H : Hp} {s : Shared} {Q : VK} {us : List Value} {vs : List V}
/-- the callee's run, from a body -/
theorem g_runs (F : FnG X.prog X.w X.K X.mg X.base CX k f fd ps sp) (room : RoomG k X.A) (bi : Binds X.K fd ps ds) (dv : Vals dvs ds) (pass : Passes CX X E) (I : Inv X pins σ H s) (rv : Vals vs us) (pr : sp (vs ++ dvs) H Q E) :
    wpAny (model X.prog X.w) X.A (call (.ref f) us) (EP X pins σ Q) X.xe s := by
  have whole := rv.append dv
  have n : (us ++ ds).length = ps.length := whole.length.symm.trans (F.len _ _ _ _ pr)
  refine wpAny_call (codeAny_mono (F.run _ _ _ _ _ _ _ _ _ room I.env0 (bi _ _ I.kIn n) whole pr) ?_)
  intro end_ s' h
  match end_, h with
  | .error _, h => exact pass _ _ _ _ _ _ I h
  | .ok (.ret _), h => exact I.after h
theorem g_pe_call (F : FnG X.prog X.w X.K X.mg X.base CX k f fd ps sp) (room : RoomG k X.A) (gl : Gl X x) (at_ : X.mg x = some (.ref f)) (kept : PySem.W.keepIn X.K (.ref f) = true) (bi : Binds X.K fd ps ds) (dv : Vals dvs ds) (pass : Passes CX X E) (args : PA X (e :: es) t)
    (nd : (x == ("__debug__" : Str)) = false := by decide) (st : starEach (e :: es) X.env = (false, eval e X.env) :: starEach es X.env := by rfl) (pl : (backTo pos (starEach es X.env)).any (·.1) = false := by rfl) :
    PE X (.Call (.Name x p) (e :: es) [] pos) (tCall sp dvs E t) := ⟨fun pins s σ H Q I h =>
  wpAny_Call_Name_kw (ld_glob I gl at_ (PySem.W.callWith_K (h₀ := X.base) I.ok.mod.kin kept (thn (args.run pos pins s σ H _ I h) fun _ _ ⟨_, _, I1, r, q⟩ => ⟨I1.kIn, g_runs F room bi dv pass I1 r q⟩) st pl) nd)⟩
theorem g_pe_meth {pl : Sem Bool} (ob : PE X o ta) (cl : Cls X.K C) (me : Meth X.K C m f) (F : FnG X.prog X.w X.K X.mg X.base CX k f fd ps sp) (room : RoomG k X.A) (bi : Binds X.K fd ps ds) (dv : Vals dvs ds) (pass : Passes CX X E) (args : PA X (e :: es) t)
    (st : starEach (e :: es) X.env = (false, eval e X.env) :: starEach es X.env := by rfl) (sp_ : (backTo pos (starEach es X.env)).any (·.1) = false := by rfl)
    (arm : eval (.Call (.Attribute o m apos) (e :: es) [] pos) X.env = (do
      let r ← eval o X.env
      standAt apos.atName
      let (g, first) ← holding [r] (getMethod r m pl)
      callWith pos g first (backTo pos (starEach (e :: es) X.env)) (backToKw pos (keywordEach [] X.env))) := by rfl) :
    PE X (.Call (.Attribute o m apos) (e :: es) [] pos) (tMeth C m sp dvs E ta t) := ⟨fun pins s σ H Q I h => by
  refine PySem.W.methodCall_KW (pl := pl) (thn (ob.run pins s σ H _ I h) ?_) arm
  rintro u s1 ⟨_, H1, I1, rx, a, dx, fs, rfl, at_, no, q⟩
  obtain rfl : u = Value.ref a := rx
  exact getmeth_ok I1 at_ cl me no (PySem.W.callWith_K (first := [.ref a]) (h₀ := X.base) I.ok.mod.kin me.kp (thn (args.run pos pins s1 σ H1 _ I1 q) fun us _ ⟨vs, _, I2, r, q2⟩ => ⟨I2.kIn, g_runs (us := .ref a :: us) (vs := .ref a :: vs) F room bi dv pass I2 (.cons rfl r) q2⟩) st sp_)⟩
theorem g_pe_meth0 {pl : Sem Bool} (ob : PE X o ta) (cl : Cls X.K C) (me : Meth X.K C m f) (F : FnG X.prog X.w X.K X.mg X.base CX k f fd ps sp) (room : RoomG k X.A) (bi : Binds X.K fd ps ds) (dv : Vals dvs ds) (pass : Passes CX X E)
    (arm : eval (.Call (.Attribute o m apos) [] [] pos) X.env = (do
      let r ← eval o X.env
      standAt apos.atName
      let (g, first) ← holding [r] (getMethod r m pl)
      callWith pos g first (backTo pos (starEach [] X.env)) (backToKw pos (keywordEach [] X.env))) := by rfl) :
    PE X (.Call (.Attribute o m apos) [] [] pos) (tMeth C m sp dvs E ta tNil) := ⟨fun pins s σ H Q I h => by
  refine PySem.W.methodCall_KW (pl := pl) (thn (ob.run pins s σ H _ I h) ?_) arm
  rintro u s1 ⟨_, H1, I1, rx, a, dx, fs, rfl, at_, no, q⟩
  obtain rfl : u = Value.ref a := rx
  exact getmeth_ok I1 at_ cl me no (PySem.W.callWith_K0 (first := [.ref a]) I1.kIn me.kp (g_runs (us := [.ref a]) (vs := [.ref a]) F room bi dv pass I1 (.cons rfl .nil) q))⟩
/-- a class is made -/
theorem g_makes (M : Mk X.K C f) (F : FnG X.prog X.w X.K X.mg X.base CX k f fd ps sp) (room : RoomG (k + 1) X.A) (bi : Binds X.K fd ps ds) (dv : Vals dvs ds) (pass : Passes CX X E) (I : Inv X pins σ H s) (rv : Vals vs us)
    (pr : ∀ x dx, H x = none → H dx = none → dx ≠ x → sp (.ref x :: (vs ++ dvs)) (upd (upd H dx (.own x)) x (.ins C dx [])) (fun v H2 => v = .non ∧ Q (.ref x) H2) E) :
    wpAny (model X.prog X.w) X.A (call (.ref C) us) (EP X pins σ Q) X.xe s := by
  have J := Inv.made (C := C) I
  have z := pr _ _ (I.hok.fresh (Nat.le_succ s.heap.objs.size)) (I.hok.fresh (Nat.le_refl s.heap.objs.size)) (Nat.ne_of_lt (Nat.lt_succ_self _))
  have whole : Vals (V.ref (s.heap.objs.size + 1) :: (vs ++ dvs)) (Value.ref (s.heap.objs.size + 1) :: (us ++ ds)) := .cons rfl (rv.append dv)
  have n : ((Value.ref (s.heap.objs.size + 1) :: us) ++ ds).length = ps.length := whole.length.symm.trans (F.len _ _ _ _ z)
  refine wpAny_call (make_map (f := f) I.kIn M.makes M.init (beq_iff_eq.mp M.fn) (codeAny_mono (F.run _ _ _ _ _ _ _ _ _ (room.make C us) (J.env0.make C us []) (bi _ _ J.kIn n) whole z) ?_))
  intro end_ s' h
  match end_, h with
  | .error _, h => exact pass _ _ _ _ _ _ J h
  | .ok (.ret _), h =>
    obtain ⟨v, H', J', rv', rfl, q'⟩ := J.after h
    exact ⟨rv', V.ref (s.heap.objs.size + 1), H', J', rfl, q'⟩
theorem g_pe_make (M : Mk X.K C f) (F : FnG X.prog X.w X.K X.mg X.base CX k f fd ps sp) (room : RoomG (k + 1) X.A) (gl : Gl X x) (at_ : X.mg x = some (.ref C)) (bi : Binds X.K fd ps ds) (dv : Vals dvs ds) (pass : Passes CX X E) (args : PA X (e :: es) t)
    (nd : (x == ("__debug__" : Str)) = false := by decide) (st : starEach (e :: es) X.env = (false, eval e X.env) :: starEach es X.env := by rfl) (pl : (backTo pos (starEach es X.env)).any (·.1) = false := by rfl) :
    PE X (.Call (.Name x p) (e :: es) [] pos) (tMake C sp dvs E t) := ⟨fun pins s σ H Q I h =>
  wpAny_Call_Name_kw (ld_glob I gl at_ (PySem.W.callWith_K (h₀ := X.base) I.ok.mod.kin M.kp (thn (args.run pos pins s σ H _ I h) fun _ _ ⟨_, _, I1, r, q⟩ => ⟨I1.kIn, g_makes M F room bi dv pass I1 r q⟩) st pl) nd)⟩
end
section
variable {P : Program} {w : World} {K : PySem.W.Frag} {mg : Str → Option Value} {base : Heap} {CX : CXT} {k : Nat} {x qual : Str} {params : Arguments} {body : List Stmt} {scope : Scope} {dvs : List V} {kws : List (Str × V)} {f : Addr} {fd : FuncData} {N ps : List Str} {sp : Sp}
/-- a def of the text keeps its promise, by its body -/
theorem g_def (F : FunD K x qual params body scope dvs kws f fd) (S : FnScope N ps scope) (len : ∀ vs H Q E, sp vs H Q E → vs.length = ps.length)
    (inside : ∀ (cdv : Value) (A : Around) (outer : List Env) (s : Shared) (H : Hp) (vs : List V) (Q : VK) (E : XK), RoomG k (A.deeper (envOfC qual scope s.heap.objs.size f cdv)) → sp vs H Q E →
      ∃ t, PSs (cxOf CX P w K mg base N qual scope f cdv A outer s H E) body t ∧ t { nx := fun _ H' => Q .non H', rt := Q } (start N vs) H) : FnG P w K mg base CX (k + 1) f fd ps sp where
  len := len
  run := fun A outer s H args us vs Q E room e0 bi rv pr => by
    obtain ⟨_, _, dV, kV, doc, pm, an, cdv, ct, _, rfl, stands, code, -, -⟩ := F.ex
    have n := len _ _ _ _ pr
    have bs := fun b o e => (e0.bs b o e).1
    have hK : K.In s.heap := e0.mod.kin.keeps bs
    have par : ∀ y ∈ ps.zip us, scope.names.lookup y.1 = some .local ∨ (scope.names.lookup y.1 = some .cell ∧ ((cellsFrom (s.heap.objs.size + 1) scope.names []).lookup y.1).isSome = true) := fun y hy =>
      (S.par y.1 (List.of_mem_zip (show (y.1, y.2) ∈ ps.zip us from hy)).1).imp id fun z => ⟨z, PySem.W.cellsFrom_some _ _ _ (.inl z)⟩
    refine codeAny_call_function room.rm.depth (hK _ _ stands) rfl S.co S.gen rfl (PySem.W.codeRec_of hK code) (bi _ _ _ _ (wpAny_newFunctionEnv_cells S.kind par ?_))
    rintro _ rfl s1 into
    refine ⟨(e0.mod.nolimit.keeps bs).keeps into.toInCall.keep, codeAny_func ?_⟩
    obtain ⟨t, reads, holds⟩ := inside cdv A outer s H vs Q E (room.deeper _) pr
    have I := inv_start (CX := CX) (E := E) (cd := cdv) S room.rm.hd e0 n rv into
    refine wpAny_mono (reads.run [] s1 (start N vs) H _ I holds) ?_ fun _ _ z => z
    intro fl s' z
    match fl, z with
    | .ret _, ⟨v, _, H', J, rr, q⟩ => exact ⟨v, H', J.os, J.bare, J.base, J.hok, rr, q⟩
    | .next, ⟨_, H', J, q⟩ => exact ⟨.non, H', J.os, J.bare, J.base, J.hok, rfl, q⟩
    | .brk, ⟨_, _, _, q⟩ => exact q.elim
    | .cont, ⟨_, _, _, q⟩ => exact q.elim
end
/-! ### the law's end -/
section
variable {P : Program} {w : World} {K : PySem.W.Frag} {mg mb : Str → Option Value} {CX : CXT} {k : Nat} {fa a : Addr} {fd : FuncData} {x : Str} {sp : Sp} {s₁ : Shared} {vs : List Value} {ns : List Int}
/-- the law's call, from an abstract heap that knows nothing but the script -/
theorem g_top {H : Hp} (KX : K.In s₁.heap) (hns : s₁.heap.Ns mainGlobals mg) (hb : s₁.heap.Ns builtinsNs mb) (hbb : ∀ x : Str, x ≠ "__name__" → mb x = bootBuiltins x) (hlim : s₁.heap.NoLimit) (hg : s₁.gens = #[])
    (ha : s₁.heap.get? a = some { cls := .type "list", data := .seq vs.toArray }) (room : RoomG k callerA)
    (F : ∀ base : Heap, K.In base → base.Ns mainGlobals mg → FnG P w K mg base CX k fa fd [x] sp) (bi : ∀ (s : Shared) (u : Value), BindsTo s fd ⟨[u], []⟩ [(x, u)])
    (pr : sp [.ref a] H (fun v _ => v = .bl true) fun _ _ _ => False) (no : ∀ e s', CX [] H s₁ (fun _ _ _ => False) e s' → False)
    (only : Only H) (ok : HOk P w H s₁.heap) (hA : ∀ b, H b ≠ none → b = a) (hK : H a ≠ none → K.lookup a = none) :
    codeAny (model P w) callerA (.call (.ref fa) ⟨[.ref a], []⟩) (fun r s' => r = .ok (.ret (.bool true)) ∧ OldK s₁.heap s'.heap ∧ s'.os = s₁.os ∧ AllBare s'.gens) s₁ := by
  have dictFree : ∀ {b : Addr} {o : Obj} {es : Array DictEntry} {n : Nat}, s₁.heap.get? b = some o → o.data = .dict es n → H b = none := by
    intro b o es n e d
    by_cases z : H b = none
    · exact z
    · obtain rfl := hA b z
      cases ha.symm.trans e
      cases d
  have space : ∀ {b : Addr} {m : Str → Option Value}, s₁.heap.Ns b m → (hidT s₁.heap H).Ns b m := by
    rintro b m ⟨o, es, n, e, d, rest⟩
    exact ⟨o, es, n, hidT_get e (dictFree e d), d, rest⟩
  have mine : K.In (hidT s₁.heap H) := by
    intro b o e
    refine hidT_get (KX b o e) ?_
    by_cases z : H b = none
    · exact z
    · obtain rfl := hA b z
      rw [hK z] at e
      cases e
  have lim : (hidT s₁.heap H).NoLimit := by
    obtain ⟨m, h1, h2⟩ := hlim
    exact ⟨m, space h1, h2⟩
  have e0 : Env0 P w K mg (hidT s₁.heap H) callerA [] s₁ H :=
    { frames := rfl, mod := ⟨mine, space hns, ⟨mb, space hb, hbb⟩, lim⟩, bs := fun _ _ e => of_hidT e, bsz := Nat.le_of_eq (hidT_size _ _), funs := trivial, frf := fun b z => absurd (show b ∈ ([] : List Addr) from z) (by simp), hok := ok, bare := .of_eq hg }
  refine codeAny_mono ((F _ mine (space hns)).run callerA [] s₁ H ⟨[.ref a], []⟩ [.ref a] [.ref a] _ _ room e0 (bi s₁ (.ref a)) (.cons rfl .nil) pr) ?_
  intro end_ s' z
  match end_, z with
  | .error _, z => exact (no _ _ z).elim
  | .ok (.ret u), ⟨v, H', os, bare, un, ok', rr, q⟩ =>
    obtain rfl : v = .bl true := q
    obtain rfl : u = Value.bool true := rr
    refine ⟨rfl, OldK.of_keep fun b o e => ?_, os, bare⟩
    rcases only b with z | ⟨ob, xs, z⟩
    · exact un.keep b o e z (fun y => absurd (show b ∈ ([] : List Addr) from y) (by simp)) (by simp)
    · obtain ⟨y1, -⟩ := ok b _ z
      obtain ⟨y2, -⟩ := ok' b _ (un.frzs b ob _ z)
      cases e.symm.trans y1
      exact y2
theorem g_law (KX : K.In s₁.heap) (hns : s₁.heap.Ns mainGlobals mg) (hb : s₁.heap.Ns builtinsNs mb) (hbb : ∀ x : Str, x ≠ "__name__" → mb x = bootBuiltins x) (hlim : s₁.heap.NoLimit) (hg : s₁.gens = #[])
    (ha : s₁.heap.get? a = some { cls := .type "list", data := .seq vs.toArray }) (hi : IntsAre vs ns) (hl : ns.length ≤ sizeLine) (room : RoomG k callerA)
    (F : ∀ base : Heap, K.In base → base.Ns mainGlobals mg → FnG P w K mg base CX k fa fd [x] sp) (bi : ∀ (s : Shared) (u : Value), BindsTo s fd ⟨[u], []⟩ [(x, u)])
    (pr : ∀ H : Hp, Only H → SqL K H a (ns.map V.int) → sp [.ref a] H (fun v _ => v = .bl true) fun _ _ _ => False) (no : ∀ H e s', CX [] H s₁ (fun _ _ _ => False) e s' → False) :
    codeAny (model P w) callerA (.call (.ref fa) ⟨[.ref a], []⟩) (fun r s' => r = .ok (.ret (.bool true)) ∧ OldK s₁.heap s'.heap ∧ s'.os = s₁.os ∧ AllBare s'.gens) s₁ := by
  have rv := vals_ints hi
  have n := hi.length
  rcases hk : K.lookup a with _ | o
  · let o0 : Obj := { cls := .type "list", data := .seq vs.toArray }
    let H : Hp := fun b => if b = a then some (.frz o0 (.lst (ns.map V.int))) else none
    have Ha : H a = some (.frz o0 (.lst (ns.map V.int))) := if_pos rfl
    have Hn : ∀ b, b ≠ a → H b = none := fun b z => if_neg z
    have only : Only H := fun b => if z : b = a then .inr ⟨o0, ns.map V.int, by rw [z]; exact Ha⟩ else .inl (Hn b z)
    refine g_top (H := H) KX hns hb hbb hlim hg ha room F bi (pr H only (.inl (.inr ⟨o0, Ha⟩))) (no H) only ?_ (fun b z => ?_) fun _ => hk
    · intro b u z
      by_cases y : b = a
      · subst y
        cases Ha.symm.trans z
        exact ⟨ha, by rw [List.length_map]; exact hl, vs, _, rv, ha⟩
      · cases (Hn b y).symm.trans z
    · by_cases y : b = a
      · exact y
      · exact absurd (Hn b y) z
  · cases (KX a o hk).symm.trans ha
    have only : Only fun _ => none := fun _ => .inl rfl
    exact g_top (H := fun _ => none) KX hns hb hbb hlim hg ha room F bi (pr _ only (.inr ⟨_, vs.toArray, _, hk, rfl, rfl, rfl, by rw [List.size_toArray, n]; exact hl, by simpa using rv⟩)) (no _) only (fun b u z => nomatch (show (none : Option HO) = some u from z)) (fun b z => absurd rfl z) fun z => absurd rfl z
end
/-- a law, of defs that are run while no display goes on -/
theorem g_walk {l : PySem.W.OpenLaw} {n k : Nat} {q : Program} {loose : List Str} {XP : (Str → Option Value) → Heap → Prop} {YP : World → Heap → Prop} {d : DefRec} {CX : CXT} {x : Str} (hn : l.most = some n) (hn2 : n ≤ sizeLine) (hdf : d.params.defaults = []) (room : Room k callerA)
    (F : ∀ (w : World) (mg : Str → Option Value) (fa : Addr) (h : Heap), YP w h → h.Ns mainGlobals mg → mg d.name = some (.ref fa) →
      ∃ (K : PySem.W.Frag) (fd : FuncData) (sp : Sp), K.In h ∧ (∀ (s : Shared) (u : Value), BindsTo s fd ⟨[u], []⟩ [(x, u)]) ∧
        (∀ (H : Hp) (a : Addr) (ns : List Int), ns.length ≤ n → Only H → SqL K H a (ns.map V.int) → sp [.ref a] H (fun v _ => v = .bl true) fun _ _ _ => False) ∧ ∀ base : Heap, K.In base → base.Ns mainGlobals mg → FnG l.prog w K mg base CX k fa fd [x] sp)
    (no : ∀ (H : Hp) (s : Shared) (e : Value) (s' : Shared), CX [] H s (fun _ _ _ => False) e s' → False) : PySem.W.WalkO q loose XP YP l.row.toRowW d [] (fun f vs => PySem.call f vs) := by
  refine Att.attach_call hn hdf ?_
  intro w s₀ s₁ mg mb fa o pm cd doc a vs ns G Y ho hd hcd hmg hobj hints hlen hg
  obtain ⟨K, fd, sp, KX, bi, pr, hF⟩ := F w mg fa _ Y G.T.g hmg
  exact g_law KX G.T.g G.T.b G.T.builtins G.T.nolimit hg hobj hints (Nat.le_trans hlen hn2) ⟨room, rfl⟩ hF bi (fun H => pr H a ns hlen) (fun H => no H s₁)
/-! ### repr of data -/
/-- repr(x) of data -/
def rReprD (K : PySem.W.Frag) : List V → Hp → VK → Prop := fun vs H Q => ∃ x d, vs = [x] ∧ Dp K H x d ∧ d.showable = true ∧ d.hasDict = false ∧ d.depth ≤ 60 ∧ d.shown.length ≤ sizeLine ∧ Q (.str d.shown) H
theorem call_reprD {X : Cx} {k : Nat} (room : RoomG k X.A) : CallR X (.builtin "repr") (rReprD X.K) := by
  rintro pins s σ H vs us Q I r ⟨x, d, rfl, hd, sh, nd, dp, sz, q⟩
  obtain ⟨u, rfl, ru⟩ := r.one
  have un := room.units
  obtain ⟨as, rd⟩ := Dp.reads I d x u hd ru
  have far : ∀ a : Addr, u = .ref a → wpAny (model X.prog X.w) X.A (call (.builtin "repr") [u]) (EP X pins σ Q) X.xe s := by
    rintro a rfl
    exact repr_of_reads' rd sh (fun z => by rw [nd] at z; cases z) room.no (by omega) (fun _ _ e => e) (fun h' t tk kept => ⟨.str d.shown, H, I.kept (t' := tk) kept, ⟨t, rfl⟩, q⟩) sz
  cases rd with
  | none => exact PySem.P.repr_of_none ⟨.str _, H, I.tok _, ⟨_, rfl⟩, q⟩
  | bool b => exact PySem.P.repr_of_bool ⟨.str _, H, I.tok _, ⟨_, rfl⟩, q⟩
  | int i t => exact PySem.P.repr_of_int (by simpa [PyData.showable] using sh) ⟨.str _, H, I.tok _, ⟨_, rfl⟩, q⟩
  | str z t => exact PySem.P.repr_of_str ⟨.str _, H, I.tok _, ⟨_, rfl⟩, q⟩ sz
  | list h1 h2 h3 h4 => exact far _ rfl
  | tuple h1 h2 h3 h4 => exact far _ rfl
  | dict h1 h2 h3 h4 h5 => exact far _ rfl
/-! ### a def that may be called by its name, a class that may be made, a method -/
structure Cal (P : Program) (w : World) (K : PySem.W.Frag) (mg : Str → Option Value) (base : Heap) (CX : CXT) (k : Nat) (x : Str) (sp : Sp) (dvs : List V) : Prop where
  ex : ∃ (f : Addr) (fd : FuncData) (ps : List Str) (ds : List Value), FnG P w K mg base CX k f fd ps sp ∧ mg x = some (.ref f) ∧ PySem.W.keepIn K (.ref f) = true ∧ Binds K fd ps ds ∧ Vals dvs ds
structure Mak (P : Program) (w : World) (K : PySem.W.Frag) (mg : Str → Option Value) (base : Heap) (CX : CXT) (k : Nat) (x : Str) (C : Addr) (sp : Sp) (dvs : List V) : Prop where
  ex : ∃ (f : Addr) (fd : FuncData) (ps : List Str) (ds : List Value), Mk K C f ∧ FnG P w K mg base CX k f fd ps sp ∧ mg x = some (.ref C) ∧ Binds K fd ps ds ∧ Vals dvs ds
structure Met (P : Program) (w : World) (K : PySem.W.Frag) (mg : Str → Option Value) (base : Heap) (CX : CXT) (k : Nat) (C : Addr) (m : Str) (sp : Sp) (dvs : List V) : Prop where
  ex : ∃ (f : Addr) (fd : FuncData) (ps : List Str) (ds : List Value), Cls K C ∧ Meth K C m f ∧ FnG P w K mg base CX k f fd ps sp ∧ Binds K fd ps ds ∧ Vals dvs ds
section
variable {X : Cx} {CX : CXT} {E : XK} {k j : Nat} {C : Addr} {x m : Str} {sp : Sp} {dvs : List V} {p pos apos : Pos} {e o : Expr} {es : List Expr} {ta : TE} {t : TA}
theorem pe_c (c : Cal X.prog X.w X.K X.mg X.base CX k x sp dvs) (hr : RoomG j X.A) (hk : k ≤ j) (hg : Gl X x) (hx : Passes CX X E) (ha : PA X (e :: es) t)
    (hdb : (x == ("__debug__" : Str)) = false := by decide) (he : starEach (e :: es) X.env = (false, eval e X.env) :: starEach es X.env := by rfl) (hpl : (backTo pos (starEach es X.env)).any (·.1) = false := by rfl) :
    PE X (.Call (.Name x p) (e :: es) [] pos) (tCall sp dvs E t) := by
  obtain ⟨f, fd, ps, ds, F, hm, kp, b, d⟩ := c.ex
  exact g_pe_call F (hr.mono hk) hg hm kp b d hx ha hdb he hpl
theorem pe_k (c : Mak X.prog X.w X.K X.mg X.base CX k x C sp dvs) (hr : RoomG j X.A) (hk : k + 1 ≤ j) (hg : Gl X x) (hx : Passes CX X E) (ha : PA X (e :: es) t)
    (hdb : (x == ("__debug__" : Str)) = false := by decide) (he : starEach (e :: es) X.env = (false, eval e X.env) :: starEach es X.env := by rfl) (hpl : (backTo pos (starEach es X.env)).any (·.1) = false := by rfl) :
    PE X (.Call (.Name x p) (e :: es) [] pos) (tMake C sp dvs E t) := by
  obtain ⟨f, fd, ps, ds, M, F, hm, b, d⟩ := c.ex
  exact g_pe_make M F (hr.mono hk) hg hm b d hx ha hdb he hpl
theorem pe_m {pl : Sem Bool} (c : Met X.prog X.w X.K X.mg X.base CX k C m sp dvs) (hr : RoomG j X.A) (hk : k ≤ j) (hx : Passes CX X E) (he : PE X o ta) (ha : PA X (e :: es) t)
    (hst : starEach (e :: es) X.env = (false, eval e X.env) :: starEach es X.env := by rfl) (hpl : (backTo pos (starEach es X.env)).any (·.1) = false := by rfl)
    (ht : eval (.Call (.Attribute o m apos) (e :: es) [] pos) X.env = (do
      let ov ← eval o X.env
      standAt apos.atName
      let (f, first) ← holding [ov] (getMethod ov m pl)
      callWith pos f first (backTo pos (starEach (e :: es) X.env)) (backToKw pos (keywordEach [] X.env))) := by rfl) :
    PE X (.Call (.Attribute o m apos) (e :: es) [] pos) (tMeth C m sp dvs E ta t) := by
  obtain ⟨f, fd, ps, ds, hc, hm, F, b, d⟩ := c.ex
  exact g_pe_meth (pl := pl) he hc hm F (hr.mono hk) b d hx ha hst hpl ht
theorem pe_m0 {pl : Sem Bool} (c : Met X.prog X.w X.K X.mg X.base CX k C m sp dvs) (hr : RoomG j X.A) (hk : k ≤ j) (hx : Passes CX X E) (he : PE X o ta)
    (ht : eval (.Call (.Attribute o m apos) [] [] pos) X.env = (do
      let ov ← eval o X.env
      standAt apos.atName
      let (f, first) ← holding [ov] (getMethod ov m pl)
      callWith pos f first (backTo pos (starEach [] X.env)) (backToKw pos (keywordEach [] X.env))) := by rfl) :
    PE X (.Call (.Attribute o m apos) [] [] pos) (tMeth C m sp dvs E ta tNil) := by
  obtain ⟨f, fd, ps, ds, hc, hm, F, b, d⟩ := c.ex
  exact g_pe_meth0 (pl := pl) he hc hm F (hr.mono hk) b d hx ht
end
section
open PySem PySem.W PySem.Calls PyProof.Rows
set_option maxRecDepth 100000 in
open PySem PySem.Spec PyProof.Rows L2 in
set_option maxHeartbeats 0 in
theorem early (S : PySem.W.Frag → Sp) (ask : ∀ (K : PySem.W.Frag), YHd.ex K = true → ∀ (H : L2.Hp) (a : Addr) (ns : List Int), ns.length ≤ 63 → Only H → L2.SqL K H a (ns.map L2.V.int) → S K [.ref a] H (fun v _ => v = .bl true) fun _ _ _ => False)
    (facts : ∀ {P : Program} {w : World} {K : PySem.W.Frag} {h : Heap} {mg : PySem.Str → Option Value} {f : Addr}, K.In h → h.Ns mainGlobals mg → mg ("law" : PySem.Str) = some (.ref f) → He.SaysD YHd.fa YHd.fn K → ∃ fd : FuncData, (∀ (s : Shared) (v : Value), BindsTo s fd ⟨[v], []⟩ [("_law_script", v)]) ∧ ∀ base : Heap, K.In base → base.Ns mainGlobals mg → FnG P w K mg base L2.CX0 9 f fd ["_law_script"] (S K)) : PySem.Challenge.rw_stayprice_k93_whole_from_text_to_paper.Holds := by
  w_on; o_law
  refine HandSHeadRun.head_any (r := OpenLaw.row PySem.Challenge.rw_stayprice_k93_whole_from_text_to_paper) (q := view (OpenLaw.row PySem.Challenge.rw_stayprice_k93_whole_from_text_to_paper).prog [77]) (H := YHd.hk) (ob := YHd.ob) (M := 6000) (loose := YHd.loose) (d := HandSHeadRun.topDef (OpenLaw.row PySem.Challenge.rw_stayprice_k93_whole_from_text_to_paper).prog 77) (kwd := []) YHd.ob_eq
    (by kernel_rfl) (fun s => by kernel_rfl) YHd.run (by kernel_rfl) (by kernel_rfl) (by kernel_rfl) (by rfl) (by first | assumption | decide +kernel) (by decide +kernel) ⟨rfl, rfl, rfl, rfl, rfl, by decide +kernel⟩ ?hw ?hc
  case hw => w_witness2
  case hc =>
    refine Y.g_walk (l := PySem.Challenge.rw_stayprice_k93_whole_from_text_to_paper) (n := 63) (k := 9) (x := "_law_script") (CX := L2.CX0) rfl (by decide) (by kernel_rfl) ⟨rfl, by decide, by decide⟩ ?F (fun _ _ _ _ z => z)
    intro w mg fa h Y G hmg0
    obtain ⟨K, KX, c⟩ := Y
    have hmg : mg ("law" : PySem.Str) = some (.ref fa) := by
      have e : (HandSHeadRun.topDef (OpenLaw.row PySem.Challenge.rw_stayprice_k93_whole_from_text_to_paper).prog 77).name = ("law" : PySem.Str) := by kernel_rfl
      rw [← e]
      exact hmg0
    obtain ⟨fd, hb, hF⟩ := facts (P := (PySem.Challenge.rw_stayprice_k93_whole_from_text_to_paper).prog) (w := w) KX G hmg c.1
    exact ⟨K, fd, S K, KX, hb, fun H a ns hl ho hS => ask K c.2 H a ns hl ho hS, hF⟩
end
/-! YD: data (lists, tuples, numbers, truths, texts, None) and their ==. -/
open PySem PySem.Spec PyProof.Rows L2
mutual
theorem eqv_same : ∀ d : PyData, d.canLay0 = true → PyData.eqv d d = true
  | .none, _ => rfl
  | .bool b, _ => by simp [PyData.eqv]
  | .int i, _ => by simp [PyData.eqv]
  | .str x, _ => by simp [PyData.eqv]
  | .list xs, h => by rw [PyData.eqv]; exact eqv_sameAll xs (by simpa [PyData.canLay0] using h)
  | .tuple xs, h => by rw [PyData.eqv]; exact eqv_sameAll xs (by simpa [PyData.canLay0] using h)
  | .dict _, h => by simp [PyData.canLay0] at h
theorem eqv_sameAll : ∀ xs : List PyData, PyData.canLayAll0 xs = true → PyData.eqvAll xs xs = true
  | [], _ => rfl
  | x :: xs, h => by
    have h' : x.canLay0 = true ∧ PyData.canLayAll0 xs = true := by simpa [PyData.canLayAll0] using h
    rw [PyData.eqvAll, eqv_same x h'.1, eqv_sameAll xs h'.2]; rfl
end
theorem shaped_of {d : PyData} (h : d.canLay0 = true) (k : d.depth ≤ 64) : SeqAt.shaped d = true := by
  unfold SeqAt.shaped
  rw [h, decide_eq_true k]; rfl
theorem canLay_all {xs : List PyData} (h : ∀ x ∈ xs, x.canLay0 = true) : PyData.canLayAll0 xs = true := by
  induction xs with
  | nil => rfl
  | cons x r ih => rw [PyData.canLayAll0, h x (by simp), ih fun y hy => h y (by simp [hy])]; rfl
theorem depth_all {xs : List PyData} {n : Nat} (h : ∀ x ∈ xs, x.depth ≤ n) : PyData.depthAll xs ≤ n := by
  induction xs with
  | nil => exact Nat.zero_le _
  | cons x r ih =>
    rw [PyData.depthAll]
    exact Nat.max_le.mpr ⟨h x (by simp), ih fun y hy => h y (by simp [hy])⟩
/-- data that stand at most so deep -/
def Sh (n : Nat) (d : PyData) : Prop := d.canLay0 = true ∧ d.depth ≤ n
theorem Sh.ok {n : Nat} {d : PyData} (h : Sh n d) (k : n ≤ 64) : SeqAt.shaped d = true := shaped_of h.1 (Nat.le_trans h.2 k)
theorem sh_int (i : Int) (n : Nat) : Sh n (.int i) := ⟨by simp [PyData.canLay0], by simp [PyData.depth]⟩
theorem sh_bl (b : Bool) (n : Nat) : Sh n (.bool b) := ⟨by simp [PyData.canLay0], by simp [PyData.depth]⟩
theorem sh_non (n : Nat) : Sh n .none := ⟨by simp [PyData.canLay0], by simp [PyData.depth]⟩
theorem sh_str {x : Str} (h : PyData.strOk x = true) (n : Nat) : Sh n (.str x) := ⟨by simpa [PyData.canLay0] using h, by simp [PyData.depth]⟩
theorem sh_lst {n : Nat} {xs : List PyData} (h : ∀ x ∈ xs, Sh n x) : Sh (n + 1) (.list xs) :=
  ⟨by rw [PyData.canLay0]; exact canLay_all fun x hx => (h x hx).1, by rw [PyData.depth]; exact Nat.succ_le_succ (depth_all fun x hx => (h x hx).2)⟩
theorem sh_tup {n : Nat} {xs : List PyData} (h : ∀ x ∈ xs, Sh n x) : Sh (n + 1) (.tuple xs) :=
  ⟨by rw [PyData.canLay0]; exact canLay_all fun x hx => (h x hx).1, by rw [PyData.depth]; exact Nat.succ_le_succ (depth_all fun x hx => (h x hx).2)⟩
/-! ### lists of whole numbers, of truths -/
theorem dp_ints {K : PySem.W.Frag} {H : Hp} : ∀ ns : List Int, DpAll K H (ns.map V.int) (ns.map PyData.int)
  | [] => .nil
  | n :: r => .cons (.int n) (dp_ints r)
theorem sh_ints (ns : List Int) (n : Nat) : Sh (n + 1) (.list (ns.map PyData.int)) := sh_lst fun x hx => by
  obtain ⟨i, _, rfl⟩ := List.mem_map.mp hx
  exact sh_int i n
theorem eqv_ints : ∀ ns ms : List Int, PyData.eqvAll (ns.map PyData.int) (ms.map PyData.int) = decide (ns = ms)
  | [], [] => rfl
  | [], m :: ms => by simp [PyData.eqvAll]
  | n :: ns, [] => by simp [PyData.eqvAll]
  | n :: ns, m :: ms => by
    rw [List.map_cons, List.map_cons, PyData.eqvAll, eqv_ints ns ms, PyData.eqv]
    by_cases h : n = m <;> simp [h]
section
variable {K : PySem.W.Frag} {H : Hp} {Q : VK} {p q : Addr} {ns ms : List Int} {x y : V} {d e : PyData} {n : Nat}
theorem g_neD_ints (h : SqL K H p (ns.map V.int)) (h' : SqL K H q (ms.map V.int)) (k : Q (.bl (!decide (ns = ms))) H) : rNeD K (.ref p) (.ref q) H Q :=
  ⟨_, _, .lst h (dp_ints ns), .lst h' (dp_ints ms), (sh_ints ns 0).ok (by decide), (sh_ints ms 0).ok (by decide), by rw [PyData.eqv, eqv_ints]; exact k⟩
theorem g_neD_same (h : Dp K H x d) (h' : Dp K H y d) (s : Sh n d) (hn : n ≤ 64) (k : Q (.bl false) H) : rNeD K x y H Q :=
  ⟨d, d, h, h', s.ok hn, s.ok hn, by rw [eqv_same d s.1]; exact k⟩
end
/-- the days from c to ahead of g -/
def days (c g : Int) : List Int := (List.range (g - c).toNat).map fun i : Nat => c + (i : Int)
theorem rgV_days (c g : Int) : rgV c g = (days c g).map V.int := by
  unfold rgV days
  rw [List.map_map]
  rfl
theorem days_len (c g : Int) : (days c g).length = (g - c).toNat := by unfold days; rw [List.length_map, List.length_range]
theorem days_get {c g : Int} {i : Nat} (h : (i : Int) < g - c) : (days c g)[i]? = some (c + (i : Int)) := by
  unfold days
  rw [List.getElem?_map, List.getElem?_range (by omega)]
  rfl
/-! YM: lists of stretches, their days, the one rising list of few stretches. -/
open PySem
abbrev Pr : Type := Int × Int
def hasD (ts : List Pr) (d : Int) : Bool := ts.any fun p => decide (p.1 ≤ d) && decide (d ≤ p.2)
/-- each is none of the wrong way round -/
def Up (ts : List Pr) : Prop := ∀ p ∈ ts, p.1 ≤ p.2
/-- rising, a day between each two -/
structure Can (ts : List Pr) : Prop where
  up : Up ts
  gap : ts.Pairwise fun p q => p.2 + 1 < q.1
theorem Can.nil : Can [] := ⟨fun p hp => by simp at hp, List.Pairwise.nil⟩
/-- one turn of the spreading: the last stretch ahead is made longer, or a new one is laid -/
def sprTurn (F : List Pr) (p : Pr) : List Pr := match F.getLast? with
  | some l => if p.1 ≤ l.2 + 1 then F.dropLast ++ [(l.1, max l.2 p.2)] else F ++ [p]
  | none => [p]
/-- what holds between the turns: F is rising, each of its stretches begins no later than what comes -/
structure SprIn (F : List Pr) (seen : List Pr) : Prop where
  can : Can F
  days : ∀ d, hasD F d = hasD seen d
  low : ∀ q ∈ F, ∃ r ∈ seen, q.1 = r.1
theorem SprIn.nil : SprIn [] [] := ⟨Can.nil, fun _ => rfl, fun q hq => by simp at hq⟩
/-- what one stretch lacks of another -/
def wo (p q : Pr) : List Pr := (if p.1 < q.1 then [(p.1, min p.2 (q.1 - 1))] else []) ++ if q.2 < p.2 then [(max p.1 (q.2 + 1), p.2)] else []
def OkD (p : Pr) : Prop := 0 ≤ p.1 ∧ p.1 ≤ p.2 ∧ p.2 ≤ 1000000
/-! YT: the law's tape in the heap; tuples that stay. -/
open PySem PySem.Spec PyProof.Rows L2
/-- a tape at t: its great cells at b, all cells at s, how many were drawn -/
def Tape (H : Hp) (t b s : Addr) : Prop := t ≠ b ∧ t ≠ s ∧ b ≠ s ∧ ∃ (A S : List Int) (n : Int),
  H t = some (.lst [.ref b, .ref s, .int n]) ∧ H b = some (.lst (A.map V.int)) ∧ H s = some (.lst (S.map V.int))
theorem tape_lst {H : Hp} {t b s : Addr} (T : Tape H t b s) : (∃ xs, H t = some (.lst xs)) ∧ ∃ xs, H b = some (.lst xs) := by
  obtain ⟨_, _, _, A, S, n, h1, h2, h3⟩ := T
  exact ⟨⟨_, h1⟩, ⟨_, h2⟩⟩
theorem log9 {m : Int} (h0 : 0 < m) (h : m < 2 ^ 250) : m.natAbs.log2 < 9000 :=
  Nat.lt_trans (PySem.Flt.log2_lt_of (k := 250) (by decide) (by
    have e : (m.natAbs : Int) = m := by omega
    have h2 : (m.natAbs : Int) < ((2 ^ 250 : Nat) : Int) := by rw [e]; exact h
    exact Int.ofNat_lt.mp h2)) (by decide)
theorem ni_tape {H : Hp} {t b s p : Addr} (hp : Fr H p) (T : Tape H t b s) : p ∉ [t, b] := by
  replace hp : H p = none := hp
  obtain ⟨_, _, _, A, S, n, h1, h2, h3⟩ := T
  intro h
  rcases List.mem_cons.mp h with e | h
  · rw [e, h1] at hp; cases hp
  · rw [List.mem_singleton.mp h, h2] at hp; cases hp
theorem tape_same {H H' : Hp} {t b s : Addr} (e : Same H H') (T : Tape H t b s) : Tape H' t b s := by
  obtain ⟨n1, n2, n3, A, S, n, h1, h2, h3⟩ := T
  exact ⟨n1, n2, n3, A, S, n, e _ _ h1, e _ _ h2, e _ _ h3⟩
theorem tape_new {H : Hp} {t b s p : Addr} {o : HO} (hp : Fr H p) (T : Tape H t b s) : Tape (upd H p o) t b s := tape_same (same_new hp) T
theorem tape_own {H H0 : Hp} {t b s p : Addr} {o : HO} (hp : Fr H0 p) (T0 : Tape H0 t b s) (T : Tape H t b s) : Tape (upd H p o) t b s := by
  obtain ⟨n1, n2, n3, A, S, n, h1, h2, h3⟩ := T
  obtain ⟨_, _, _, A', S', n', k1, k2, k3⟩ := T0
  exact ⟨n1, n2, n3, A, S, n, at_ne (ne_of_none k1 hp) h1, at_ne (ne_of_none k2 hp) h2, at_ne (ne_of_none k3 hp) h3⟩
/-- the tuples stay -/
def Tk (H H' : Hp) : Prop := ∀ a xs, H a = some (.tup xs) → H' a = some (.tup xs)
theorem Tk.trans {H H1 H2 : Hp} (a : Tk H H1) (b : Tk H1 H2) : Tk H H2 := fun c xs h => b c xs (a c xs h)
theorem Same.tk {H H' : Hp} (e : Same H H') : Tk H H' := fun a xs h => e _ _ h
theorem tk_new {H : Hp} {p : Addr} {o : HO} (h : Fr H p) : Tk H (upd H p o) := Same.tk (same_new h)
theorem tk_put {H : Hp} {p : Addr} {o : HO} {zs : List V} (h : H p = some (.lst zs)) : Tk H (upd H p o) := fun a xs e => at_ne (fun z => by rw [z, h] at e; cases e) e
theorem tk_kp {H H' : Hp} {t b s : Addr} (T : Tape H t b s) (k : Kp [t, b] H H') : Tk H H' := fun a xs e => k a _ e fun m => by
  obtain ⟨_, _, _, A, S, n, h1, h2, h3⟩ := T
  rcases List.mem_cons.mp m with z | m
  · rw [z, h1] at e; cases e
  · rw [List.mem_singleton.mp m, h2] at e; cases e
theorem at_tk {H H' : Hp} {t b s a : Addr} {xs : List V} (k : Kp [t, b] H H') (T : Tape H t b s) (h : H a = some (.tup xs)) : H' a = some (.tup xs) := tk_kp T k a xs h
theorem g_pk2 {K : PySem.W.Frag} {H : Hp} {Q : VK} {p : Addr} {xs : List V} {a b w : Int} (h : H p = some (.lst xs)) (hxs : xs = [.int a, .int b]) (h0 : 0 ≤ w) (h1 : w < 2) (q : ∀ v : Int, v = a ∨ v = b → Q (.int v) H) : rIxL K (.ref p) (.int w) H Q := by
  subst hxs
  exact g_pick2 (SqL.of h) h0 h1 q
theorem g_pk3 {K : PySem.W.Frag} {H : Hp} {Q : VK} {p : Addr} {xs : List V} {a b c w : Int} (h : H p = some (.lst xs)) (hxs : xs = [.int a, .int b, .int c]) (h0 : 0 ≤ w) (h1 : w < 3) (q : ∀ v : Int, v = a ∨ v = b ∨ v = c → Q (.int v) H) : rIxL K (.ref p) (.int w) H Q := by
  subst hxs
  exact g_pick3 (SqL.of h) h0 h1 q
theorem g_pk5 {K : PySem.W.Frag} {H : Hp} {Q : VK} {p : Addr} {xs : List V} {a b c d e w : Int} (h : H p = some (.lst xs)) (hxs : xs = [.int a, .int b, .int c, .int d, .int e]) (h0 : 0 ≤ w) (h1 : w < 5) (q : ∀ v : Int, v = a ∨ v = b ∨ v = c ∨ v = d ∨ v = e → Q (.int v) H) : rIxL K (.ref p) (.int w) H Q := by
  subst hxs
  exact g_pick5 (SqL.of h) h0 h1 q
/-! YP: pairs of whole numbers in the heap; comprehensions that make nothing but their list. -/
open PySem PySem.Spec PyProof.Rows L2
/-- v is a tuple of the pair p -/
def PrAt (G : Hp) (v : V) (p : Pr) : Prop := ∃ t, v = .ref t ∧ G t = some (.tup [.int p.1, .int p.2])
abbrev PrsAt (G : Hp) : List V → List Pr → Prop := Paired (PrAt G)
theorem Paired.app {α β : Type} {F : α → β → Prop} : ∀ {as : List α} {bs : List β} {cs : List α} {ds : List β}, Paired F as bs → Paired F cs ds → Paired F (as ++ cs) (bs ++ ds)
  | _, _, _, _, .nil, h => h
  | _, _, _, _, .cons r t, h => .cons r (Paired.app t h)
theorem Paired.snoc {α β : Type} {F : α → β → Prop} {as : List α} {bs : List β} {a : α} {b : β} (h : Paired F as bs) (r : F a b) : Paired F (as ++ [a]) (bs ++ [b]) := Paired.app h (.cons r .nil)
theorem Paired.getL {α β : Type} {F : α → β → Prop} : ∀ {as : List α} {bs : List β} {i : Nat} {a : α}, Paired F as bs → as[i]? = some a → ∃ b, bs[i]? = some b ∧ F a b
  | _, _, _, _, .nil, e => by simp at e
  | _, _, 0, _, .cons r _, e => by simp at e; subst e; exact ⟨_, rfl, r⟩
  | _, _, i + 1, a, .cons r t, e => by
    obtain ⟨b, h1, h2⟩ := Paired.getL (i := i) t (by simpa using e)
    exact ⟨b, by simpa using h1, h2⟩
theorem Paired.getR {α β : Type} {F : α → β → Prop} : ∀ {as : List α} {bs : List β} {i : Nat} {b : β}, Paired F as bs → bs[i]? = some b → ∃ a, as[i]? = some a ∧ F a b
  | _, _, _, _, .nil, e => by simp at e
  | _, _, 0, _, .cons r _, e => by simp at e; subst e; exact ⟨_, rfl, r⟩
  | _, _, i + 1, b, .cons r t, e => by
    obtain ⟨a, h1, h2⟩ := Paired.getR (i := i) t (by simpa using e)
    exact ⟨a, by simpa using h1, h2⟩
/-- the pair that stands at a value -/
def kOf (G : Hp) : V → Pr
  | .ref t => match G t with
    | some (.tup [.int i, .int j]) => (i, j)
    | _ => (0, 0)
  | _ => (0, 0)
theorem kOf_at {G : Hp} {v : V} {p : Pr} (h : PrAt G v p) : kOf G v = p := by
  obtain ⟨t, rfl, e⟩ := h
  simp only [kOf, e]
theorem prs_map {G : Hp} : ∀ {xs : List V} {ts : List Pr}, PrsAt G xs ts → ts = xs.map (kOf G)
  | _, _, .nil => rfl
  | _, _, .cons r t => by rw [List.map_cons, kOf_at r, ← prs_map t]
theorem prs_mem {G : Hp} {xs : List V} {ts : List Pr} (h : PrsAt G xs ts) {x : V} (hx : x ∈ xs) : PrAt G x (kOf G x) := by
  obtain ⟨i, hi, e⟩ := List.mem_iff_getElem.mp hx
  obtain ⟨b, _, q⟩ := Paired.getL h (List.getElem?_eq_some_iff.mpr ⟨hi, e⟩)
  rw [kOf_at q]
  exact q
theorem prs_of {G : Hp} : ∀ {xs : List V}, (∀ x ∈ xs, PrAt G x (kOf G x)) → PrsAt G xs (xs.map (kOf G))
  | [], _ => .nil
  | x :: xs, h => .cons (h x (by simp)) (prs_of fun y hy => h y (by simp [hy]))
theorem pr_tk {G G' : Hp} {v : V} {p : Pr} (e : Tk G G') (h : PrAt G v p) : PrAt G' v p := let ⟨t, a, b⟩ := h; ⟨t, a, e _ _ b⟩
theorem prs_tk {G G' : Hp} {xs : List V} {ts : List Pr} (e : Tk G G') (h : PrsAt G xs ts) : PrsAt G' xs ts := Paired.mapP h fun _ _ q => pr_tk e q
theorem prs_new {H : Hp} {xs : List V} {ts : List Pr} {p : Addr} {o : HO} (hp : Fr H p) (h : PrsAt H xs ts) : PrsAt (upd H p o) xs ts := prs_tk (tk_new hp) h
theorem prs_put {H : Hp} {xs zs : List V} {ts : List Pr} {p : Addr} {o : HO} (hp : H p = some (.lst zs)) (h : PrsAt H xs ts) : PrsAt (upd H p o) xs ts := prs_tk (tk_put hp) h
/-! ### as data -/
def prD (p : Pr) : PyData := .tuple [.int p.1, .int p.2]
section
variable {K : PySem.W.Frag} {H : Hp} {Q : VK} {p q : Addr} {xs ys : List V} {ts us : List Pr}
end
/-- sorted, of pairs -/
theorem g_sortedP {K : PySem.W.Frag} {H : Hp} {Q : VK} {a : Addr} {xs : List V} {ts : List Pr} (h : SqL K H a xs) (hp : PrsAt H xs ts)
    (q : ∀ (p : Addr) (ys : List V) (us : List Pr), Fr H p → PrsAt H ys us → us.Perm ts → (us.Pairwise fun p q => p.1 < q.1 ∨ (p.1 = q.1 ∧ p.2 ≤ q.2)) → Q (.ref p) (upd H p (.lst ys))) : rSortedPO K [.ref a] H Q :=
  ⟨a, xs, kOf H, rfl, h, fun x hx => prs_mem hp hx, fun ys p hs hb hn => q p ys (ys.map (kOf H)) hn (prs_of fun x hx => prs_mem hp (hb.perm.mem_iff.mp hx)) (by rw [prs_map hp]; exact hb.perm.map _)
    (List.pairwise_map.mpr (hs.imp fun {x y} e => by
      have e' := SrtO.lexB_no.mp (show SrtO.lexB (kOf H y) (kOf H x) = false from e)
      omega))⟩
theorem jn {t u : TS} {D : Ends} {σ : L2.St} {H : Hp} (P : L2.St → Hp → Prop) (k : ∀ σ H, P σ H → u D σ H) (h : ∀ N : L2.St → Hp → Prop, (∀ σ H, P σ H → N σ H) → t { D with nx := N } σ H) : tSeq t u D σ H := h (u D) k
theorem ix_last {n : Nat} (h : 0 < n) : ixN n (-1) = some (n - 1) := by
  unfold ixN
  rw [if_neg (by decide), if_pos (by omega)]
  congr 1
  omega
theorem at_last {α : Type} (xs : List α) (x : α) : atI (xs ++ [x]) (-1) = some x := by
  unfold atI
  rw [ix_last (by simp)]
  simp
/-! ### comprehensions that make nothing but their list -/
/-! ### comprehensions whose parts may make new things -/
theorem lc_w {J : It} {n : Nat} {G : Hp → Prop} {Y : Nat → Hp → V → Hp → Prop} (w : Walk J n G Y) {g : TG} {tt : TT} {te : TE} {vs : List Nat} {σ : L2.St} {H1 : Hp} {Qf : Addr → Hp → Prop} (f : Nat → Option V) (hn : n < 100000) (hG : ∀ H, Same H1 H → G H)
    (hs : ∀ (D : Addr) i x H H' (N : Hp → Prop), Fr H1 D → i < n → Same H1 H → Y i H x H' → (∀ y H4, f i = some y → Same H H4 → ∃ acc, H4 D = some (.lst acc) ∧ acc.length < sizeLine ∧ N (upd H4 D (.lst (acc ++ [y])))) → (∀ H4, f i = none → Same H H4 → N H4) →
      g x (wipe σ vs) H' fun σ2 H2 => wipe σ2 vs = wipe σ vs ∧ tt σ2 H2 fun b H3 =>
        if b = true then te σ2 H3 fun y H4 => ∃ acc, H4 D = some (.lst acc) ∧ acc.length < sizeLine ∧ N (upd H4 D (.lst (acc ++ [y]))) else N H3)
    (hd : ∀ D H', Fr H1 D → Same H1 H' → H' D = some (.lst ((List.range n).filterMap f)) → Qf D H') :
    ∀ D, Fr H1 D → ∃ W : Nat → Nat → Hp → Prop, (∃ m, W 0 m (upd H1 D (.lst []))) ∧ ∀ i m H, W i m H →
      (J.stop i H ∧ Qf D H) ∨ (J.go i H ∧ ∃ Nx : Hp → Prop, (∀ H', Nx H' → ∃ m', m' < m ∧ W (i + 1) m' H') ∧ ∀ x H', J.yld i H x H' → g x (wipe σ vs) H' fun σ2 H2 => wipe σ2 vs = wipe σ vs ∧ tt σ2 H2 fun b H3 =>
        if b = true then te σ2 H3 fun y H4 => ∃ acc, H4 D = some (.lst acc) ∧ acc.length < sizeLine ∧ Nx (upd H4 D (.lst (acc ++ [y]))) else Nx H3) := fun D hD => by
  refine lc_it w (fun i H => Same H1 H ∧ H D = some (.lst ((List.range i).filterMap f))) ⟨same_new hD, upd_same⟩ (fun i H _ h => hG H h.1) (fun i x H H' hi h y => ?_) fun H h => hd D H hD h.1 h.2
  have hlen : ((List.range i).filterMap f).length ≤ i := Nat.le_trans (List.length_filterMap_le ..) (by rw [List.length_range]; omega)
  refine hs D i x H H' _ hD hi h.1 y (fun y H4 hy s => ⟨_, s _ _ h.2, by rw [sizeLine_eq]; omega, sm_own hD (h.1.trans s), ?_⟩) fun H4 hy s => ⟨h.1.trans s, ?_⟩
  · rw [upd_same, List.range_succ, List.filterMap_append]
    simp [hy]
  · rw [s _ _ h.2, List.range_succ, List.filterMap_append]
    simp [hy]
theorem range_flt' {α β : Type} (xs : List α) (g : α → Option β) (n : Nat) : (List.range n).filterMap (fun i => (xs[i]?).bind g) = (xs.take n).filterMap g := by
  induction n with
  | zero => simp
  | succ n ih =>
    rw [List.range_succ, List.filterMap_append, ih, List.take_add_one, List.filterMap_append]
    congr 1
    cases e : xs[n]? with
    | none => simp [e]
    | some x => cases e2 : g x <;> simp [e, e2]
theorem range_flt {α β : Type} (xs : List α) (g : α → Option β) : (List.range xs.length).filterMap (fun i => (xs[i]?).bind g) = xs.filterMap g := by
  rw [range_flt', List.take_length]
/-- comprehensions whose items are new tuples, numbers, texts: R stays while the tuples stay -/
theorem lc_r {J : It} {n : Nat} {G : Hp → Prop} {Y : Nat → Hp → V → Hp → Prop} (w : Walk J n G Y) {g : TG} {tt : TT} {te : TE} {vs : List Nat} {σ : L2.St} {H1 : Hp} {Qf : Addr → Hp → Prop} {β : Type} (R : Hp → V → β → Prop) (hR : ∀ G G' v b, Tk G G' → R G v b → R G' v b) (f : Nat → Option β) (hn : n < 100000) (hG : ∀ H, Same H1 H → G H)
    (hs : ∀ (D : Addr) i x H H' (N : Hp → Prop), Fr H1 D → i < n → Same H1 H → Y i H x H' → (∀ y b H4, f i = some b → Same H H4 → R H4 y b → ∃ acc, H4 D = some (.lst acc) ∧ acc.length < sizeLine ∧ N (upd H4 D (.lst (acc ++ [y])))) → (∀ H4, f i = none → Same H H4 → N H4) →
      g x (wipe σ vs) H' fun σ2 H2 => wipe σ2 vs = wipe σ vs ∧ tt σ2 H2 fun b H3 =>
        if b = true then te σ2 H3 fun y H4 => ∃ acc, H4 D = some (.lst acc) ∧ acc.length < sizeLine ∧ N (upd H4 D (.lst (acc ++ [y]))) else N H3)
    (hd : ∀ D H' ys, Fr H1 D → Same H1 H' → H' D = some (.lst ys) → Paired (R H') ys ((List.range n).filterMap f) → Qf D H') :
    ∀ D, Fr H1 D → ∃ W : Nat → Nat → Hp → Prop, (∃ m, W 0 m (upd H1 D (.lst []))) ∧ ∀ i m H, W i m H →
      (J.stop i H ∧ Qf D H) ∨ (J.go i H ∧ ∃ Nx : Hp → Prop, (∀ H', Nx H' → ∃ m', m' < m ∧ W (i + 1) m' H') ∧ ∀ x H', J.yld i H x H' → g x (wipe σ vs) H' fun σ2 H2 => wipe σ2 vs = wipe σ vs ∧ tt σ2 H2 fun b H3 =>
        if b = true then te σ2 H3 fun y H4 => ∃ acc, H4 D = some (.lst acc) ∧ acc.length < sizeLine ∧ Nx (upd H4 D (.lst (acc ++ [y]))) else Nx H3) := fun D hD => by
  refine lc_it w (fun i H => Same H1 H ∧ ∃ acc, H D = some (.lst acc) ∧ Paired (R H) acc ((List.range i).filterMap f)) ⟨same_new hD, [], upd_same, .nil⟩ (fun i H _ h => hG H h.1) (fun i x H H' hi ⟨sm, acc, ha, hp⟩ y => ?_) fun H ⟨sm, acc, ha, hp⟩ => hd D H acc hD sm ha hp
  have hlen : acc.length ≤ i := by
    rw [Paired.length hp]
    exact Nat.le_trans (List.length_filterMap_le ..) (by rw [List.length_range]; omega)
  refine hs D i x H H' _ hD hi sm y (fun y b H4 hb s r => ⟨acc, s _ _ ha, by rw [sizeLine_eq]; omega, sm_own hD (sm.trans s), acc ++ [y], upd_same, ?_⟩) fun H4 hb s => ⟨sm.trans s, acc, s _ _ ha, ?_⟩
  · have tk : Tk H4 (upd H4 D (.lst (acc ++ [y]))) := tk_put (s _ _ ha)
    rw [List.range_succ, List.filterMap_append]
    refine Paired.app (Paired.mapP hp fun _ _ q => hR _ _ _ _ ((Same.tk s).trans tk) q) ?_
    simp only [List.filterMap_cons, hb, List.filterMap_nil]
    exact .cons (hR _ _ _ _ tk r) .nil
  · rw [List.range_succ, List.filterMap_append]
    simp only [List.filterMap_cons, hb, List.filterMap_nil, List.append_nil]
    exact Paired.mapP hp fun _ _ q => hR _ _ _ _ (Same.tk s) q
theorem Paired.take {α β : Type} {F : α → β → Prop} : ∀ (n : Nat) {as : List α} {bs : List β}, Paired F as bs → Paired F (as.take n) (bs.take n)
  | 0, _, _, _ => .nil
  | n + 1, _, _, .nil => .nil
  | n + 1, _, _, .cons r t => .cons r (Paired.take n t)
/-! Y1: the law's tape and its draws. -/
open PySem PySem.Spec PyProof.Rows L2
/-! steps: a heap's facts (at), a list's or tuple's (sq), side questions (sd), one step (s1), many (ss) -/
local macro_rules | `(tactic| walk_at "tp") => `(tactic| first
  | with_reducible assumption
  | ((with_reducible refine' $(Lean.mkIdent `Y.tape_new) ?n0 ?n1); (case n0 => with_reducible assumption); (case n1 => walk_at "tp"))
  | ((with_reducible refine' $(Lean.mkIdent `Y.tape_same) ?n0 ?n1); (case n0 => with_reducible assumption); (case n1 => walk_at "tp"))
  | ((with_reducible refine' $(Lean.mkIdent `Y.tape_own) ?n0 ?n1 ?n2); (case n0 => with_reducible assumption); (case n1 => walk_at "tp"); (case n2 => walk_at "tp"))
  | fail)
local macro_rules | `(tactic| walk_at "ni") => `(tactic| first
  | with_reducible assumption
  | ((with_reducible refine' $(Lean.mkIdent `Y.ni_tape) ?n0 ?n1); (case n0 => with_reducible assumption); (case n1 => walk_at "tp"))
  | fail)
local macro_rules | `(tactic| walk_at "at0") => `(tactic| first
  | with_reducible assumption
  | with_reducible exact upd_same
  | ((with_reducible refine' $(Lean.mkIdent `Y.at_new) ?n0 ?n1); (case n0 => with_reducible assumption); (case n1 => walk_at "at0"))
  | ((with_reducible refine' $(Lean.mkIdent `Y.get_same) ?n0 ?n1); (case n0 => with_reducible assumption); (case n1 => walk_at "at0"))
  | ((with_reducible refine' $(Lean.mkIdent `Y.get_kp) ?n0 ?n1 ?n2); (case n0 => with_reducible assumption); (case n1 => walk_at "at0"); (case n2 => walk_at "ni"))
  | fail)
local macro_rules | `(tactic| walk_at "ne") => `(tactic| first
  | assumption
  | exact Ne.symm (by assumption)
  | ((with_reducible refine' $(Lean.mkIdent `Y.ne_new) ?n0 ?n1); (case n0 => with_reducible assumption); (case n1 => walk_at "at"))
  | ((with_reducible refine' $(Lean.mkIdent `Y.ne_new') ?n0 ?n1); (case n0 => with_reducible assumption); (case n1 => walk_at "at"))
  | fail)
local macro_rules | `(tactic| walk_at "sm") => `(tactic| first
  | with_reducible assumption
  | with_reducible exact Same.refl _
  | ((with_reducible refine' $(Lean.mkIdent `Y.sm_new) ?n0 ?n1); (case n0 => with_reducible assumption); (case n1 => walk_at "sm"))
  | ((with_reducible refine' $(Lean.mkIdent `Y.sm_own) ?n0 ?n1); (case n0 => with_reducible assumption); (case n1 => walk_at "sm"))
  | ((with_reducible refine' $(Lean.mkIdent `Y.sm_tr) ?n0 ?n1); (case n0 => with_reducible assumption); (case n1 => walk_at "sm"))
  | fail)
local macro_rules | `(tactic| walk_at "kp") => `(tactic| first
  | with_reducible assumption
  | with_reducible exact $(Lean.mkIdent `Y.Kp.refl) _ _
  | ((with_reducible refine' $(Lean.mkIdent `Y.kp_own) ?n0 ?n1); (case n0 => with_reducible assumption); (case n1 => walk_at "kp"))
  | ((with_reducible refine' $(Lean.mkIdent `Y.kp_new) ?n0 ?n1); (case n0 => with_reducible assumption); (case n1 => walk_at "kp"))
  | ((with_reducible refine' $(Lean.mkIdent `Y.kp_tr) ?n0 ?n1); (case n0 => with_reducible assumption); (case n1 => walk_at "kp"))
  | ((with_reducible refine' $(Lean.mkIdent `Y.kp_sm) ?n0 ?n1); (case n0 => with_reducible assumption); (case n1 => walk_at "kp"))
  | fail)
local macro_rules | `(tactic| walk_at "fr") => `(tactic| first
  | with_reducible assumption
  | ((with_reducible refine' $(Lean.mkIdent `Y.fr_new) ?n0); (case n0 => with_reducible assumption))
  | ((with_reducible refine' $(Lean.mkIdent `Y.fr_of) ?n0 ?n1); (case n0 => with_reducible assumption); (case n1 => walk_at "sm"))
  | fail)
local macro_rules | `(tactic| walk_at "at") => `(tactic| first
  | with_reducible assumption
  | with_reducible exact upd_same
  | ((with_reducible refine' $(Lean.mkIdent `Y.at_new) ?n0 ?n1); (case n0 => with_reducible assumption); (case n1 => walk_at "at"))
  | ((with_reducible refine' $(Lean.mkIdent `Y.at_ne) ?n0 ?n1); (case n0 => walk_at "ne"); (case n1 => walk_at "at"))
  | ((with_reducible refine' $(Lean.mkIdent `Y.get_same) ?n0 ?n1); (case n0 => with_reducible assumption); (case n1 => walk_at "at"))
  | ((with_reducible refine' $(Lean.mkIdent `Y.get_kp) ?n0 ?n1 ?n2); (case n0 => with_reducible assumption); (case n1 => walk_at "at"); (case n2 => walk_at "ni"))
  | ((with_reducible refine' $(Lean.mkIdent `Y.at_tk) ?n0 ?n1 ?n2); (case n0 => with_reducible assumption); (case n1 => walk_at "tp"); (case n2 => walk_at "at"))
  | fail)
local macro_rules | `(tactic| walk_at "tk") => `(tactic| first
  | with_reducible assumption
  | with_reducible exact $(Lean.mkIdent `Y.Tk.refl) _
  | fail)
local macro_rules | `(tactic| walk_at "pr") => `(tactic| first
  | with_reducible assumption
  | fail)
local macro_rules | `(tactic| walk_at "prs") => `(tactic| first
  | with_reducible assumption
  | ((with_reducible refine' $(Lean.mkIdent `Y.prs_new) ?n0 ?n1); (case n0 => with_reducible assumption); (case n1 => walk_at "prs"))
  | ((with_reducible refine' $(Lean.mkIdent `Y.prs_put) ?n0 ?n1); (case n0 => walk_at "at"); (case n1 => walk_at "prs"))
  | fail)
local macro_rules | `(tactic| walk_at "ad") => `(tactic| first
  | with_reducible assumption
  | with_reducible exact $(Lean.mkIdent `Y.At.int) _
  | with_reducible exact $(Lean.mkIdent `Y.At.str) _
  | with_reducible exact $(Lean.mkIdent `Y.At.bl) _
  | with_reducible exact $(Lean.mkIdent `Y.At.non)
  | ((with_reducible refine' $(Lean.mkIdent `Y.Td.at0) ?n0); (case n0 => walk_at "td"))
  | ((with_reducible refine' $(Lean.mkIdent `Y.at_tup0) ?n0 ?n1); (case n0 => walk_at "at"); (case n1 => walk_at "ads"))
  | ((with_reducible refine' $(Lean.mkIdent `Y.at_lst0) ?n0 ?n1); (case n0 => walk_at "at"); (case n1 => walk_at "ads"))
  | ((with_reducible refine' $(Lean.mkIdent `Y.at_new') ?n0 ?n1); (case n0 => with_reducible assumption); (case n1 => walk_at "ad"))
  | ((with_reducible refine' $(Lean.mkIdent `Y.At.same) ?n0 ?n1); (case n0 => with_reducible assumption); (case n1 => walk_at "ad"))
  | fail)
local macro_rules | `(tactic| walk_at "ads") => `(tactic| first
  | with_reducible assumption
  | with_reducible exact $(Lean.mkIdent `Y.Ats.nil)
  | ((with_reducible refine' $(Lean.mkIdent `Y.Ats.cons) ?n0 ?n1); (case n0 => walk_at "ad"); (case n1 => walk_at "ads"))
  | fail)
local macro_rules | `(tactic| walk_at "td") => `(tactic| first
  | with_reducible assumption
  | with_reducible exact $(Lean.mkIdent `Y.Td.int) _
  | with_reducible exact $(Lean.mkIdent `Y.Td.str) _
  | with_reducible exact $(Lean.mkIdent `Y.Td.bl) _
  | with_reducible exact $(Lean.mkIdent `Y.Td.non)
  | ((with_reducible refine' $(Lean.mkIdent `Y.td_tup) ?n0 ?n1); (case n0 => walk_at "at"); (case n1 => walk_at "tds"))
  | ((with_reducible refine' $(Lean.mkIdent `Y.td_new) ?n0 ?n1); (case n0 => with_reducible assumption); (case n1 => walk_at "td"))
  | ((with_reducible refine' $(Lean.mkIdent `Y.td_put) ?n0 ?n1); (case n0 => walk_at "at"); (case n1 => walk_at "td"))
  | ((with_reducible refine' $(Lean.mkIdent `Y.td_same) ?n0 ?n1); (case n0 => with_reducible assumption); (case n1 => walk_at "td"))
  | fail)
local macro_rules | `(tactic| walk_at "tds") => `(tactic| first
  | with_reducible assumption
  | with_reducible exact $(Lean.mkIdent `Y.Tds.nil)
  | ((with_reducible refine' $(Lean.mkIdent `Y.tds_cons) ?n0 ?n1); (case n0 => walk_at "td"); (case n1 => walk_at "tds"))
  | ((with_reducible refine' $(Lean.mkIdent `Y.tds_snoc) ?n0 ?n1); (case n0 => walk_at "tds"); (case n1 => walk_at "td"))
  | ((with_reducible refine' $(Lean.mkIdent `Y.tds_app) ?n1 ?n0); (case n0 => walk_at "tds"); (case n1 => walk_at "tds"))
  | ((with_reducible refine' $(Lean.mkIdent `Y.tds_new) ?n0 ?n1); (case n0 => with_reducible assumption); (case n1 => walk_at "tds"))
  | ((with_reducible refine' $(Lean.mkIdent `Y.tds_put) ?n0 ?n1); (case n0 => walk_at "at"); (case n1 => walk_at "tds"))
  | ((with_reducible refine' $(Lean.mkIdent `Y.tds_same) ?n0 ?n1); (case n0 => with_reducible assumption); (case n1 => walk_at "tds"))
  | ((with_reducible refine' $(Lean.mkIdent `Y.tds_kp) ?n0 ?n2 ?n1); (case n0 => with_reducible assumption); (case n2 => walk_at "tp"); (case n1 => walk_at "tds"))
  | fail)
local macro_rules | `(tactic| walk_at "ins") => `(tactic| first
  | with_reducible assumption
  | ((with_reducible refine' $(Lean.mkIdent `Y.ins_put) ?n0 ?n1); (case n0 => walk_at "at"); (case n1 => walk_at "ins"))
  | fail)
local macro_rules | `(tactic| walk_at "bk") => `(tactic| first
  | with_reducible assumption
  | ((with_reducible refine' $(Lean.mkIdent `Y.bk_new) ?n0 ?n1); (case n0 => with_reducible assumption); (case n1 => walk_at "bk"))
  | ((with_reducible refine' $(Lean.mkIdent `Y.bk_same) ?n0 ?n1); (case n0 => with_reducible assumption); (case n1 => walk_at "bk"))
  | ((with_reducible refine' $(Lean.mkIdent `Y.bk_put) ?n0 ?n2 ?n1); (case n0 => walk_at "at"); (case n1 => walk_at "bk"); (case n2 => with_reducible assumption))
  | ((with_reducible refine' $(Lean.mkIdent `Y.bk_kp) ?n0 ?n2 ?n3 ?n1); (case n0 => with_reducible assumption); (case n2 => walk_at "tp"); (case n1 => walk_at "bk"); (case n3 => with_reducible assumption))
  | fail)
local macro_rules | `(tactic| walk_at "wd") => `(tactic| first
  | with_reducible exact $(Lean.mkIdent `Y.wd_price)
  | with_reducible exact $(Lean.mkIdent `Y.wd_come)
  | with_reducible exact $(Lean.mkIdent `Y.wd_go)
  | with_reducible exact $(Lean.mkIdent `Y.wd_least)
  | with_reducible exact $(Lean.mkIdent `Y.wd_most)
  | with_reducible exact $(Lean.mkIdent `Y.wd_deal)
  | with_reducible exact $(Lean.mkIdent `Y.wd_fee)
  | fail)
local macro_rules | `(tactic| walk_at "rt") => `(tactic| first
  | with_reducible assumption
  | fail)
local macro_rules | `(tactic| walk_at "ru") => `(tactic| first
  | with_reducible assumption
  | with_reducible exact $(Lean.mkIdent `Y.ru_nil)
  | ((with_reducible refine' $(Lean.mkIdent `Y.ru_app) ?n0 ?n1); (case n0 => walk_at "ru"); (case n1 => walk_at "ru"))
  | ((with_reducible refine' $(Lean.mkIdent `Y.ru_take) ?n0); (case n0 => walk_at "ru"))
  | ((with_reducible refine' $(Lean.mkIdent `Y.ru_new) ?n0 ?n1); (case n0 => with_reducible assumption); (case n1 => walk_at "ru"))
  | ((with_reducible refine' $(Lean.mkIdent `Y.ru_put) ?n0 ?n1); (case n0 => walk_at "at"); (case n1 => walk_at "ru"))
  | ((with_reducible refine' $(Lean.mkIdent `Y.ru_same) ?n0 ?n1); (case n0 => with_reducible assumption); (case n1 => walk_at "ru"))
  | ((with_reducible refine' $(Lean.mkIdent `Y.ru_kp) ?n0 ?n2 ?n1); (case n0 => with_reducible assumption); (case n2 => walk_at "tp"); (case n1 => walk_at "ru"))
  | fail)
local macro_rules | `(tactic| walk_at "gd") => `(tactic| first
  | with_reducible assumption
  | with_reducible exact $(Lean.mkIdent `Y.gd_nil)
  | ((with_reducible refine' $(Lean.mkIdent `Y.gd_app) ?n0 ?n1); (case n0 => walk_at "gd"); (case n1 => walk_at "gd"))
  | ((with_reducible refine' $(Lean.mkIdent `Y.gd_take) ?n0); (case n0 => walk_at "gd"))
  | fail)
local macro_rules | `(tactic| walk_at "up") => `(tactic| first
  | with_reducible assumption
  | ((with_reducible refine' $(Lean.mkIdent `Y.Can.up) ?n0); (case n0 => with_reducible assumption))
  | fail)
local macro_rules | `(tactic| walk_at "sq") => `(tactic| first
  | assumption
  | (refine' SqL.of ?n0; (case n0 => walk_at "at"))
  | (refine' SqT.of ?n0; (case n0 => walk_at "at"))
  | ((with_reducible refine' $(Lean.mkIdent `Y.sql_new) ?n0 ?n1); (case n0 => with_reducible assumption); (case n1 => walk_at "sq"))
  | ((with_reducible refine' $(Lean.mkIdent `Y.sql_same) ?n0 ?n1); (case n0 => with_reducible assumption); (case n1 => walk_at "sq"))
  | ((with_reducible refine' $(Lean.mkIdent `Y.sqt_new) ?n0 ?n1); (case n0 => with_reducible assumption); (case n1 => walk_at "sq"))
  | ((with_reducible refine' $(Lean.mkIdent `Y.sqt_same) ?n0 ?n1); (case n0 => with_reducible assumption); (case n1 => walk_at "sq"))
  | ((with_reducible refine' $(Lean.mkIdent `Y.sq_or) ?n0); (case n0 => walk_at "at"))
  | ((with_reducible refine' $(Lean.mkIdent `Y.sq_orT) ?n0); (case n0 => walk_at "at"))
  | ((with_reducible refine' Or.inl ?n0); (case n0 => walk_at "sq"))
  | ((with_reducible refine' Or.inr ?n0); (case n0 => walk_at "sq"))
  | fail)
local macro_rules | `(tactic| walk_at "dp") => `(tactic| first
  | assumption
  | exact Dp.int _
  | exact Dp.str _
  | exact Dp.bl _
  | exact Dp.non
  | (refine' Dp.tup ?s0 ?a0; (case s0 => walk_at "sq"); (case a0 => walk_at "dpa"))
  | (refine' Dp.lst ?s0 ?a0; (case s0 => walk_at "sq"); (case a0 => walk_at "dpa"))
  | fail)
local macro_rules | `(tactic| walk_at "dpa") => `(tactic| first
  | exact DpAll.nil
  | exact $(Lean.mkIdent `Y.dp_ints) _
  | (refine' DpAll.cons ?a0 ?b0; (case a0 => walk_at "dp"); (case b0 => walk_at "dpa"))
  | fail)
local macro_rules | `(tactic| walk_at "sh") => `(tactic| first
  | assumption
  | exact ⟨by simp [PyData.canLay0, PyData.canLayAll0], by simp [PyData.depth, PyData.depthAll]⟩
  | fail)
local macro_rules | `(tactic| walk_at "sd") => `(tactic| ((try dsimp only); first
  | omega
  | assumption
  | exact rfl
  | decide
  | exact Or.inl ⟨by omega, by omega⟩
  | exact Or.inr ⟨by omega, by omega⟩
  | exact ⟨by first | assumption | omega | decide, by first | assumption | omega | decide⟩
  | exact ⟨by decide, by decide, by decide⟩
  | exact ⟨by omega, $(Lean.mkIdent `Y.log9) (by omega) (by omega)⟩
  | (simp only [List.length_map, List.length_append, List.length_cons, List.length_nil, List.length_singleton, List.length_reverse, List.length_take, List.length_drop, sizeLine_eq]; omega)
  | fail))
local macro_rules | `(tactic| walk_at "sd3") => `(tactic| first
  | assumption
  | exact ⟨by omega, by omega, by omega⟩)
local macro_rules | `(tactic| walk_at "sd4") => `(tactic| first
  | assumption
  | exact ⟨by omega, by omega, by omega, by omega⟩)
local macro_rules | `(tactic| walk_at "rf") => `(tactic| exact rfl)
local macro_rules | `(tactic| walk_at "ai") => `(tactic| first
  | assumption
  | ((with_reducible refine' $(Lean.mkIdent `Y.at_k0) ?r); (case r => exact rfl))
  | ((with_reducible refine' $(Lean.mkIdent `Y.at_k1) ?r); (case r => exact rfl))
  | ((with_reducible refine' $(Lean.mkIdent `Y.at_k2) ?r); (case r => exact rfl))
  | ((with_reducible refine' $(Lean.mkIdent `Y.at_k3) ?r); (case r => exact rfl))
  | ((with_reducible refine' $(Lean.mkIdent `Y.atI_map) ?r); (case r => assumption))
  | ((with_reducible refine' $(Lean.mkIdent `Y.ix_k0) ?r); (case r => walk_at "sd"))
  | ((with_reducible refine' $(Lean.mkIdent `Y.ix_k2) ?r); (case r => walk_at "sd"))
  | (with_reducible exact $(Lean.mkIdent `Y.at_last) _ _)
  | ((with_reducible refine' $(Lean.mkIdent `Y.ix_last) ?r); (case r => walk_at "sd"))
  | fail)
local macro_rules | `(tactic| walk_at "isi") => `(tactic| first
  | (with_reducible refine $(Lean.mkIdent `Y.g_isi_int_int) ?_)
  | (with_reducible refine $(Lean.mkIdent `Y.g_isi_int_bool) ?_)
  | (with_reducible refine $(Lean.mkIdent `Y.g_isi_int_str) ?_)
  | (with_reducible refine $(Lean.mkIdent `Y.g_isi_int_list) ?_)
  | (with_reducible refine $(Lean.mkIdent `Y.g_isi_int_tuple) ?_)
  | (with_reducible refine $(Lean.mkIdent `Y.g_isi_bl_int) ?_)
  | (with_reducible refine $(Lean.mkIdent `Y.g_isi_bl_bool) ?_)
  | (with_reducible refine $(Lean.mkIdent `Y.g_isi_bl_str) ?_)
  | (with_reducible refine $(Lean.mkIdent `Y.g_isi_bl_list) ?_)
  | (with_reducible refine $(Lean.mkIdent `Y.g_isi_bl_tuple) ?_)
  | (with_reducible refine $(Lean.mkIdent `Y.g_isi_str_int) ?_)
  | (with_reducible refine $(Lean.mkIdent `Y.g_isi_str_bool) ?_)
  | (with_reducible refine $(Lean.mkIdent `Y.g_isi_str_str) ?_)
  | (with_reducible refine $(Lean.mkIdent `Y.g_isi_str_list) ?_)
  | (with_reducible refine $(Lean.mkIdent `Y.g_isi_str_tuple) ?_)
  | (with_reducible refine $(Lean.mkIdent `Y.g_isi_non_int) ?_)
  | (with_reducible refine $(Lean.mkIdent `Y.g_isi_non_bool) ?_)
  | (with_reducible refine $(Lean.mkIdent `Y.g_isi_non_str) ?_)
  | (with_reducible refine $(Lean.mkIdent `Y.g_isi_non_list) ?_)
  | (with_reducible refine $(Lean.mkIdent `Y.g_isi_non_tuple) ?_)
  | ((with_reducible refine' $(Lean.mkIdent `Y.g_isi_lst_int) ?h ?_); (case h => walk_at "at"))
  | ((with_reducible refine' $(Lean.mkIdent `Y.g_isi_lst_bool) ?h ?_); (case h => walk_at "at"))
  | ((with_reducible refine' $(Lean.mkIdent `Y.g_isi_lst_str) ?h ?_); (case h => walk_at "at"))
  | ((with_reducible refine' $(Lean.mkIdent `Y.g_isi_lst_list) ?h ?_); (case h => walk_at "at"))
  | ((with_reducible refine' $(Lean.mkIdent `Y.g_isi_lst_tuple) ?h ?_); (case h => walk_at "at"))
  | ((with_reducible refine' $(Lean.mkIdent `Y.g_isi_tup_int) ?h ?_); (case h => walk_at "at"))
  | ((with_reducible refine' $(Lean.mkIdent `Y.g_isi_tup_bool) ?h ?_); (case h => walk_at "at"))
  | ((with_reducible refine' $(Lean.mkIdent `Y.g_isi_tup_str) ?h ?_); (case h => walk_at "at"))
  | ((with_reducible refine' $(Lean.mkIdent `Y.g_isi_tup_list) ?h ?_); (case h => walk_at "at"))
  | ((with_reducible refine' $(Lean.mkIdent `Y.g_isi_tup_tuple) ?h ?_); (case h => walk_at "at"))
  | fail)
local macro_rules | `(tactic| walk_at "xa") => `(tactic| first
  | with_reducible assumption
  | fail)
local macro_rules | `(tactic| walk_at "dc") => `(tactic| first
  | with_reducible assumption
  | ((with_reducible refine' $(Lean.mkIdent `Y.dc_new) ?n0 ?n1); (case n0 => with_reducible assumption); (case n1 => walk_at "dc"))
  | ((with_reducible refine' $(Lean.mkIdent `Y.dc_put) ?n0 ?n1); (case n0 => walk_at "at"); (case n1 => walk_at "dc"))
  | ((with_reducible refine' $(Lean.mkIdent `Y.dc_same) ?n0 ?n1); (case n0 => with_reducible assumption); (case n1 => walk_at "dc"))
  | fail)
local macro_rules | `(tactic| walk_at "s1") => `(tactic| first
  | ((with_reducible refine' $(Lean.mkIdent `Y.g_var) ?h ?_); (case h => exact rfl))
  | (with_reducible refine $(Lean.mkIdent `Y.g_c) ?_)
  | (with_reducible refine $(Lean.mkIdent `Y.g_op) ?_)
  | (with_reducible refine $(Lean.mkIdent `Y.g_cons) ?_)
  | (with_reducible refine $(Lean.mkIdent `Y.g_nil) ?_)
  | (with_reducible refine $(Lean.mkIdent `Y.g_test) ?_)
  | (with_reducible refine $(Lean.mkIdent `Y.g_cb) ?_)
  | (with_reducible refine $(Lean.mkIdent `Y.g_seqA) ?_)
  | (with_reducible refine $(Lean.mkIdent `Y.g_seqR) ?_)
  | (with_reducible refine $(Lean.mkIdent `Y.g_seqD) ?_)
  | (with_reducible refine $(Lean.mkIdent `Y.g_seqF) ?_)
  | (with_reducible refine $(Lean.mkIdent `Y.g_seqW) ?_)
  | (with_reducible refine $(Lean.mkIdent `Y.g_asg) ?_)
  | (with_reducible refine $(Lean.mkIdent `Y.g_name) ?_)
  | (with_reducible refine $(Lean.mkIdent `Y.g_ifS) ?_)
  | (with_reducible refine $(Lean.mkIdent `Y.g_meth) ?_)
  | (with_reducible refine $(Lean.mkIdent `Y.ite_nf) ?_)
  | (with_reducible refine $(Lean.mkIdent `Y.ite_nt) ?_)
  | (with_reducible refine iteF ?_)
  | (with_reducible refine iteT ?_)
  | ((with_reducible refine $(Lean.mkIdent `Y.g_wipe) ?h ?_); (case h => exact rfl))
  | ((with_reducible refine' $(Lean.mkIdent `Y.g_draw) ?T ?c0 ?c9 fun v H' h0 h1 T' k' => ?_); (case T => walk_at "tp"); (case c0 => walk_at "sd"); (case c9 => walk_at "sd"))
  | ((with_reducible refine $(Lean.mkIdent `Y.g_sz) ?z fun p hp => ?_); (case z => walk_at "sd"))
  | (with_reducible refine $(Lean.mkIdent `Y.g_pow6) ?_)
  | (with_reducible refine $(Lean.mkIdent `Y.g_pow12) ?_)
  | (with_reducible refine $(Lean.mkIdent `Y.g_pow18) ?_)
  | ((with_reducible refine $(Lean.mkIdent `Y.g_rI) ?c ?_); (case c => walk_at "sd"))
  | ((with_reducible refine $(Lean.mkIdent `Y.g_eq) ?c ?_); (case c => walk_at "rf"))
  | ((with_reducible refine $(Lean.mkIdent `Y.g_ne) ?c ?_); (case c => walk_at "rf"))
  | ((with_reducible refine' $(Lean.mkIdent `Y.g_ixL) ?h ?a ?_); (case h => walk_at "sq"); (case a => walk_at "ai"))
  | ((with_reducible refine' $(Lean.mkIdent `Y.g_pk2) ?h ?gxs ?a ?b fun v hv => ?_); (case h => walk_at "at"); (case gxs => with_reducible rfl); (case a => first | with_reducible assumption | omega); (case b => first | with_reducible assumption | omega))
  | ((with_reducible refine' $(Lean.mkIdent `Y.g_pk3) ?h ?gxs ?a ?b fun v hv => ?_); (case h => walk_at "at"); (case gxs => with_reducible rfl); (case a => first | with_reducible assumption | omega); (case b => first | with_reducible assumption | omega))
  | ((with_reducible refine' $(Lean.mkIdent `Y.g_pk5) ?h ?gxs ?a ?b fun v hv => ?_); (case h => walk_at "at"); (case gxs => with_reducible rfl); (case a => first | with_reducible assumption | omega); (case b => first | with_reducible assumption | omega))
  | ((with_reducible refine' $(Lean.mkIdent `Y.g_pickL) ?h ?a ?b ?e fun v hv => ?_); (case h => walk_at "at"); (case a => first | with_reducible assumption | omega); (case b => first | with_reducible assumption | omega); (case e => exact rfl))
  | ((with_reducible refine' $(Lean.mkIdent `Y.g_ixT) ?h ?a ?_); (case h => walk_at "sq"); (case a => walk_at "ai"))
  | ((with_reducible refine' $(Lean.mkIdent `Y.g_setL) ?h ?a ?_); (case h => walk_at "at"); (case a => walk_at "ai"))
  | ((with_reducible refine' $(Lean.mkIdent `Y.g_len) ?h ?_); (case h => walk_at "sq"))
  | (with_reducible refine $(Lean.mkIdent `Y.g_call) ?_)
  | (with_reducible refine $(Lean.mkIdent `Y.g_tB) ?_)
  | (with_reducible refine $(Lean.mkIdent `Y.g_un) ?_)
  | (with_reducible refine $(Lean.mkIdent `Y.g_if) ?_)
  | (with_reducible refine $(Lean.mkIdent `Y.g_and) ?_)
  | (with_reducible refine $(Lean.mkIdent `Y.g_or) ?_)
  | (with_reducible refine $(Lean.mkIdent `Y.g_not) ?_)
  | (with_reducible refine $(Lean.mkIdent `Y.g_tTup) ?_)
  | (with_reducible refine $(Lean.mkIdent `Y.g_tLst) ?_)
  | (with_reducible refine $(Lean.mkIdent `Y.g_sl) ?_)
  | (with_reducible refine $(Lean.mkIdent `Y.g_pt) ?_)
  | (with_reducible refine $(Lean.mkIdent `Y.g_np) ?_)
  | (with_reducible refine $(Lean.mkIdent `Y.g_bm) ?_)
  | (with_reducible refine $(Lean.mkIdent `Y.g_andV) ?_)
  | (with_reducible refine $(Lean.mkIdent `Y.g_orV) ?_)
  | (with_reducible refine $(Lean.mkIdent `Y.g_notV) ?_)
  | (with_reducible refine $(Lean.mkIdent `Y.g_chain) ?_)
  | (with_reducible refine $(Lean.mkIdent `Y.g_ret) ?_)
  | (with_reducible refine $(Lean.mkIdent `Y.g_drop) ?_)
  | (with_reducible refine $(Lean.mkIdent `Y.g_next) ?_)
  | (with_reducible refine $(Lean.mkIdent `Y.g_sub) ?_)
  | (with_reducible refine $(Lean.mkIdent `Y.g_gcons) ?_)
  | (with_reducible refine $(Lean.mkIdent `Y.g_gnil) ?_)
  | (with_reducible refine $(Lean.mkIdent `Y.g_yes) ?_)
  | (with_reducible refine $(Lean.mkIdent `Y.g_tru) ?_)
  | (with_reducible refine $(Lean.mkIdent `Y.g_truB) ?_)
  | (with_reducible refine $(Lean.mkIdent `Y.g_lstRg) ?_)
  | (with_reducible refine $(Lean.mkIdent `Y.g_rg2) ?_)
  | (with_reducible refine $(Lean.mkIdent `Y.g_exII) ?_)
  | (with_reducible refine $(Lean.mkIdent `Y.g_exI) ?_)
  | (with_reducible refine $(Lean.mkIdent `Y.g_rng1) ?_)
  | (with_reducible refine $(Lean.mkIdent `Y.g_rng2) ?_)
  | (with_reducible refine $(Lean.mkIdent `Y.g_iList) ?_)
  | (with_reducible refine $(Lean.mkIdent `Y.g_iTup) ?_)
  | (with_reducible refine $(Lean.mkIdent `Y.g_for) ?_)
  | (with_reducible refine $(Lean.mkIdent `Y.g_lc) ?_)
  | (with_reducible refine $(Lean.mkIdent `Y.g_rI0) ?_)
  | (with_reducible refine $(Lean.mkIdent `Y.g_isN) ?_)
  | (with_reducible refine $(Lean.mkIdent `Y.g_notN) ?_)
  | (with_reducible refine $(Lean.mkIdent `Y.g_abs) ?_)
  | (with_reducible refine $(Lean.mkIdent `Y.g_neg) ?_)
  | (with_reducible refine $(Lean.mkIdent `Y.g_bl) ?_)
  | ((with_reducible refine' $(Lean.mkIdent `Y.g_slTo) ?n ?h fun p hp => ?_); (case n => walk_at "sd"); (case h => walk_at "sq"))
  | ((with_reducible refine' $(Lean.mkIdent `Y.g_slFrom) ?n ?h fun p hp => ?_); (case n => walk_at "sd"); (case h => walk_at "sq"))
  | ((with_reducible refine' $(Lean.mkIdent `Y.g_slMid) ?n0 ?n1 ?h fun p hp => ?_); (case n0 => walk_at "sd"); (case n1 => walk_at "sd"); (case h => walk_at "sq"))
  | ((with_reducible refine' $(Lean.mkIdent `Y.g_slL) ?h fun p hp => ?_); (case h => walk_at "sq"))
  | ((with_reducible refine' $(Lean.mkIdent `Y.g_cat) ?h ?h2 ?z fun l hl => ?_); (case h => walk_at "at"); (case h2 => walk_at "at"); (case z => walk_at "sd"))
  | ((with_reducible refine' $(Lean.mkIdent `Y.g_is_whole) ?hh ?_); (case hh => walk_at "ad"))
  | ((with_reducible refine' $(Lean.mkIdent `Y.g_is_day) ?hh ?_); (case hh => walk_at "ad"))
  | ((with_reducible refine' $(Lean.mkIdent `Y.g_is_two_days) ?hh ?_); (case hh => walk_at "ad"))
  | ((with_reducible refine' $(Lean.mkIdent `Y.g_is_stretch) ?hh ?_); (case hh => walk_at "ad"))
  | ((with_reducible refine' $(Lean.mkIdent `Y.g_is_coins) ?hh ?_); (case hh => walk_at "ad"))
  | ((with_reducible refine' $(Lean.mkIdent `Y.g_is_nights) ?hh ?_); (case hh => walk_at "ad"))
  | (with_reducible refine $(Lean.mkIdent `Y.g_tMake) ?_)
  | ((with_reducible refine' $(Lean.mkIdent `Y.g_mkPrice) ?cf fun v H' hs hi => ?_); (case cf => with_reducible assumption))
  | ((with_reducible refine' $(Lean.mkIdent `Y.g_mkCome) ?cf fun v H' hs hi => ?_); (case cf => with_reducible assumption))
  | ((with_reducible refine' $(Lean.mkIdent `Y.g_mkGo) ?cf fun v H' hs hi => ?_); (case cf => with_reducible assumption))
  | ((with_reducible refine' $(Lean.mkIdent `Y.g_mkLeast) ?cf fun v H' hs hi => ?_); (case cf => with_reducible assumption))
  | ((with_reducible refine' $(Lean.mkIdent `Y.g_mkMost) ?cf fun v H' hs hi => ?_); (case cf => with_reducible assumption))
  | ((with_reducible refine' $(Lean.mkIdent `Y.g_mkDeal) ?cf fun v H' hs hi => ?_); (case cf => with_reducible assumption))
  | ((with_reducible refine' $(Lean.mkIdent `Y.g_mkFee) ?cf fun v H' hs hi => ?_); (case cf => with_reducible assumption))
  | ((with_reducible refine' $(Lean.mkIdent `Y.g_rule) ?ha ?hi ?no ?_); (case ha => exact rfl); (case hi => walk_at "ins"); (case no => exact rfl))
  | (with_reducible refine $(Lean.mkIdent `Y.g_word) ?_)
  | ((with_reducible refine' $(Lean.mkIdent `Y.g_fits) ?cf ?hi ?hh ?_); (case cf => with_reducible assumption); (case hi => walk_at "ins"); (case hh => walk_at "ad"))
  | ((with_reducible refine' $(Lean.mkIdent `Y.g_told) ?cf ?hi fun p H' hs hf ha => ?_); (case cf => with_reducible assumption); (case hi => walk_at "ins"))
  | ((with_reducible refine' $(Lean.mkIdent `Y.g_tells) ?cf ?hi ?_); (case cf => with_reducible assumption); (case hi => walk_at "ins"))
  | ((with_reducible refine' $(Lean.mkIdent `Y.g_first) ?cf ?ha ?hi ?_); (case cf => with_reducible assumption); (case ha => exact rfl); (case hi => walk_at "ins"))
  | ((with_reducible refine' $(Lean.mkIdent `Y.g_last) ?cf ?ha ?hi ?_); (case cf => with_reducible assumption); (case ha => exact rfl); (case hi => walk_at "ins"))
  | ((with_reducible refine' $(Lean.mkIdent `Y.g_worth) ?cf ?ha ?hi ?_); (case cf => with_reducible assumption); (case ha => exact rfl); (case hi => walk_at "ins"))
  | ((with_reducible refine' $(Lean.mkIdent `Y.g_Lcoins) ?T fun i H' T' k' h0 h1 => ?_); (case T => walk_at "tp"))
  | ((with_reducible refine' $(Lean.mkIdent `Y.g_Lworth) ?T fun v d H' T' k' ht hf => ?_); (case T => walk_at "tp"))
  | ((with_reducible refine' $(Lean.mkIdent `Y.g_bmeth) ?ha ?hi ?no ?_); (case ha => exact rfl); (case hi => walk_at "bk"); (case no => decide))
  | ((with_reducible refine' $(Lean.mkIdent `Y.g_robj) ?hi ?no ?_); (case hi => walk_at "bk"); (case no => decide))
  | ((with_reducible refine' $(Lean.mkIdent `Y.g_brulesR) ?cf ?cb ?hi ?hl fun p H' ys hs hf ha hy => ?_); (case cf => with_reducible assumption); (case cb => with_reducible assumption); (case hi => walk_at "bk"); (case hl => walk_at "sd"))
  | ((with_reducible refine' $(Lean.mkIdent `Y.g_brules) ?cf ?cb ?hi ?hl fun p H' ys hs hf ha hy => ?_); (case cf => with_reducible assumption); (case cb => with_reducible assumption); (case hi => walk_at "bk"); (case hl => walk_at "sd"))
  | ((with_reducible refine' $(Lean.mkIdent `Y.g_tellsZ) ?cf ?cb ?hi ?ez fun x H' hs hx => ?_); (case cf => with_reducible assumption); (case cb => with_reducible assumption); (case hi => walk_at "bk"); (case ez => walk_at "wd"))
  | ((with_reducible refine' $(Lean.mkIdent `Y.g_tells_of) ?cf ?cb ?hi fun x H' hs hx => ?_); (case cf => with_reducible assumption); (case cb => with_reducible assumption); (case hi => walk_at "bk"))
  | (with_reducible refine $(Lean.mkIdent `Y.g_usual) ?_)
  | ((with_reducible refine' $(Lean.mkIdent `Y.g_mkBookL) ?cf ?cb ?ee ?h ?hp ?hl ?hg ?T fun v F H' hs hb hf hn => ?_); (case cf => with_reducible assumption); (case cb => with_reducible assumption); (case ee => exact rfl); (case h => walk_at "sq"); (case hp => walk_at "ru"); (case hl => walk_at "sd"); (case hg => walk_at "gd"); (case T => walk_at "tp"))
  | ((with_reducible refine' $(Lean.mkIdent `Y.g_reprRow) ?h ?r ?g ?l ?_); (case h => walk_at "sq"); (case r => walk_at "ru"); (case g => walk_at "gd"); (case l => walk_at "sd"))
  | ((with_reducible refine' $(Lean.mkIdent `Y.g_insert0) ?h ?z ?_); (case h => walk_at "at"); (case z => walk_at "sd"))
  | ((with_reducible refine' $(Lean.mkIdent `Y.g_Lprules) ?T ?c fun p ys rs H' T' k' hf ha hy hl hg => ?_); (case T => walk_at "tp"); (case c => walk_at "sd3"))
  | ((with_reducible refine' $(Lean.mkIdent `Y.g_Lorules) ?T ?c fun p ys rs H' T' k' hf ha hy hl hg => ?_); (case T => walk_at "tp"); (case c => walk_at "sd3"))
  | ((with_reducible refine' $(Lean.mkIdent `Y.g_Lrules) ?T ?c fun p ys rs H' T' k' hf ha hy hl hg => ?_); (case T => walk_at "tp"); (case c => walk_at "sd3"))
  | ((with_reducible refine' $(Lean.mkIdent `Y.g_Lstay) ?T ?c fun p c0 c1 H' T' k' hf ha h0 h1 h2 h3 => ?_); (case T => walk_at "tp"); (case c => walk_at "sd3"))
  | ((with_reducible refine' $(Lean.mkIdent `Y.g_bars) ?cf ?cb ?hi ?gd ?h ?b fun p xs H' hs hf ha hy => ?_); (case cf => with_reducible assumption); (case cb => with_reducible assumption); (case hi => walk_at "bk"); (case gd => walk_at "gd"); (case h => walk_at "sq"); (case b => walk_at "sd4"))
  | (with_reducible refine $(Lean.mkIdent `Y.g_rng3) ?_)
  | ((with_reducible refine' $(Lean.mkIdent `Y.g_listOf) ?h fun p hp => ?_); (case h => walk_at "sq"))
  | ((with_reducible refine' $(Lean.mkIdent `Y.g_append) ?h ?z ?_); (case h => walk_at "at"); (case z => walk_at "sd"))
  | ((with_reducible refine' $(Lean.mkIdent `Y.g_gtup) ?h ?l ?_); (case h => walk_at "sq"); (case l => walk_at "rf"))
  | ((with_reducible refine' $(Lean.mkIdent `Y.g_tyL) ?h ?_); (case h => walk_at "sq"))
  | ((with_reducible refine $(Lean.mkIdent `Y.g_rng1b) ?a ?b ?_); (case a => walk_at "sd"); (case b => walk_at "sd"))
  | ((with_reducible refine $(Lean.mkIdent `Y.g_rng2b) ?a ?_); (case a => walk_at "sd"))
  | ((with_reducible refine' $(Lean.mkIdent `Y.g_iListb) ?h ?_); (case h => walk_at "sq"))
  | ((with_reducible refine' $(Lean.mkIdent `Y.g_iTupb) ?h ?_); (case h => walk_at "sq"))
  | ((with_reducible refine' $(Lean.mkIdent `Y.g_tape) ?h ?l fun t b s H' hs ht hb hz T => ?_); (case h => assumption); (case l => assumption))
  | ((with_reducible refine' $(Lean.mkIdent `Y.g_sortedP) ?h ?p fun p ys us hp hy hq hw => ?_); (case h => walk_at "sq"); (case p => walk_at "prs"))
  | walk_at "isi"
  | ((with_reducible refine' $(Lean.mkIdent `Y.g_nights) ?h ?b fun p H' hs hp he => ?_); (case h => walk_at "sq"); (case b => exact ⟨by omega, by omega, by omega, by omega⟩))
  | (with_reducible refine $(Lean.mkIdent `Y.g_notB) ?_)
  | (with_reducible refine $(Lean.mkIdent `Y.g_dg) ?_)
  | (with_reducible refine $(Lean.mkIdent `Y.g_din) ?_)
  | (with_reducible refine $(Lean.mkIdent `Y.g_dnin) ?_)
  | (with_reducible refine $(Lean.mkIdent `Y.g_sdput) ?_)
  | ((with_reducible refine' $(Lean.mkIdent `Y.di_get) ?h ?e fun v hv => ?_); (case h => walk_at "dc"); (case e => with_reducible assumption))
  | ((with_reducible refine' $(Lean.mkIdent `Y.di_in) ?h fun o ho => ?_); (case h => walk_at "dc"); rw [ho])
  | fail)
local macro_rules | `(tactic| walk_at "ss") => `(tactic| repeat walk_at "s1")
local macro_rules | `(tactic| walk_at "st") => `(tactic| repeat (first | walk_at "s1" | (with_reducible refine $(Lean.mkIdent `Y.g_seq) ?_)))
def sp_Ldraw (K : PySem.W.Frag) : Sp := Sp2 fun x y H Q E => ∃ (t b s : Addr) (m : Int), x = .ref t ∧ y = .int m ∧ Tape H t b s ∧ 0 < m ∧ m.natAbs.log2 < 9000 ∧
  ∀ (v : Int) (H' : Hp), 0 ≤ v → v < m → Tape H' t b s → Kp [t, b] H H' → Q (.int v) H'
def sp_Ltape (K : PySem.W.Frag) : Sp := Sp1 fun x H Q E => ∃ (a : Addr) (ns : List Int), x = .ref a ∧ SqL K H a (ns.map V.int) ∧ ns.length ≤ 63 ∧
  ∀ (t b s : Addr) (H' : Hp), Same H H' → Fr H t → Fr H b → Fr H s → Tape H' t b s → Q (.ref t) H'
theorem g_draw {K : PySem.W.Frag} {t b s : Addr} {m : Int} {H : Hp} {Q : VK} {E : XK} (T : Tape H t b s) (h0 : 0 < m) (h9 : m < 2 ^ 250) (q : ∀ (v : Int) (H' : Hp), 0 ≤ v → v < m → Tape H' t b s → Kp [t, b] H H' → Q (.int v) H') : sp_Ldraw K ([.ref t, .int m] ++ []) H Q E :=
  ⟨_, _, rfl, t, b, s, m, rfl, rfl, T, h0, log9 h0 h9, q⟩
theorem g_tape {K : PySem.W.Frag} {a : Addr} {ns : List Int} {H : Hp} {Q : VK} {E : XK} (h : SqL K H a (ns.map V.int)) (l : ns.length ≤ 63) (q : ∀ (t b s : Addr) (H' : Hp), Same H H' → Fr H t → Fr H b → Fr H s → Tape H' t b s → Q (.ref t) H') : sp_Ltape K ([.ref a] ++ []) H Q E :=
  ⟨_, rfl, a, ns, rfl, h, l, q⟩
def t_Ldraw (K : PySem.W.Frag) : TS :=
  (tSeq (tAsg (tOp rAdd (tOp (rIxL K) (tVar 0) (tC (.int 2))) (tC (.int 1))) (gSub (tVar 0) (tC (.int 2)) rSetL))
  (tSeq (tWhile (tAnd (tTest (tOp rGt (tCB (rLen K) (tCons (tOp (rIxL K) (tVar 0) (tC (.int 0))) tNil)) (tC (.int 0)))) (tTest (tOp rEq (tOp (rIxL K) (tOp (rIxL K) (tVar 0) (tC (.int 0))) (tC (.int 0))) (tC (.int 0)))))
  (tDrop (tBM K "list" rPopAt (tOp (rIxL K) (tVar 0) (tC (.int 0))) (tCons (tC (.int 0)) tNil))))
  (tSeq (tIfS (tTest (tOp rGt (tCB (rLen K) (tCons (tOp (rIxL K) (tVar 0) (tC (.int 0))) tNil)) (tC (.int 0))))
  (tSeq (tAsg (tOp rMod (tOp (rIxL K) (tOp (rIxL K) (tVar 0) (tC (.int 0))) (tC (.int 0))) (tVar 1)) (gName 2))
  (tSeq (tAsg (tOp rDivW (tOp (rIxL K) (tOp (rIxL K) (tVar 0) (tC (.int 0))) (tC (.int 0))) (tVar 1)) (gSub (tOp (rIxL K) (tVar 0) (tC (.int 0))) (tC (.int 0)) rSetL))
  (tRet (tVar 2))))
  tNext)
  (tSeq (tAsg (tC (.int 5)) (gName 3))
  (tSeq (tIfS (tTest (tOp rGt (tCB (rLen K) (tCons (tOp (rIxL K) (tVar 0) (tC (.int 1))) tNil)) (tC (.int 0))))
  (tAsg (tOp (rIxL K) (tOp (rIxL K) (tVar 0) (tC (.int 1))) (tOp rMod (tOp (rIxL K) (tVar 0) (tC (.int 2))) (tCB (rLen K) (tCons (tOp (rIxL K) (tVar 0) (tC (.int 1))) tNil)))) (gName 3))
  tNext)
  (tSeq (tAsg (tOp rMod (tOp rMul (tOp rAdd (tOp rAdd (tOp rMod (tVar 3) (tC (.int 999983))) (tOp rMul (tC (.int 7919)) (tOp (rIxL K) (tVar 0) (tC (.int 2))))) (tC (.int 1))) (tC (.int 48271))) (tC (.int 2147483647))) (gName 4))
  (tSeq (tAsg (tOp rMod (tOp rAdd (tOp rAdd (tOp rMul (tVar 4) (tVar 4)) (tOp rMul (tC (.int 69621)) (tOp (rIxL K) (tVar 0) (tC (.int 2))))) (tC (.int 11))) (tC (.int 2147483629))) (gName 4))
  (tRet (tOp rMod (tOp rDivW (tOp rMod (tOp rMul (tOp rDivW (tVar 4) (tC (.int 64))) (tC (.int 40503))) (tC (.int 2147483587))) (tC (.int 32))) (tVar 1))))))))))
theorem pure_Ldraw {K : PySem.W.Frag} {x y : V} {H : Hp} {Q : VK} {E : XK} (h : sp_Ldraw K [x, y] H Q E) : t_Ldraw K { nx := fun _ H' => Q .non H', rt := Q } [some x, some y, none, none, none] H := by
  obtain ⟨x, y, e, t, b, s, m, rfl, rfl, ⟨ntb, nts, nbs, A, S, n, ht, hb, hs⟩, hm0, hm9, q⟩ := h
  cases e
  unfold t_Ldraw
  walk_at "st"
  refine ⟨fun k σ' H' => σ' = [some (.ref t), some (.int m), none, none, none] ∧ Kp [t, b] H H' ∧ ∃ A' : List Int, A'.length = k ∧ H' t = some (.lst [.ref b, .ref s, .int (n + 1)]) ∧ H' b = some (.lst (A'.map V.int)) ∧ H' s = some (.lst (S.map V.int)),
    ⟨_, rfl, kp_upd (by simp), A, rfl, upd_same, by rw [upd_ne ntb.symm]; exact hb, by rw [upd_ne nts.symm]; exact hs⟩, ?_⟩
  rintro k σ' H' ⟨rfl, kp, A', rfl, ht', hb', hs'⟩
  clear ht hb hs
  walk_at "st"
  cases A' with
  | nil =>
    refine ite_df (by simp) ?_
    refine iteF ?_
    have T : Tape H' t b s := ⟨ntb, nts, nbs, [], S, _, ht', hb', hs'⟩
    walk_at "st"
    refine ite_df (by simp) ?_
    walk_at "st"
    cases S with
    | nil =>
      refine ite_df (by simp) ?_
      walk_at "st"
      exact q _ _ (Int.emod_nonneg _ (by omega)) (Int.emod_lt_of_pos _ hm0) T kp
    | cons c S =>
      refine ite_dt (by rw [List.length_map, List.length_cons]; omega) ?_
      obtain ⟨v, hv⟩ := atI_ex (xs := c :: S) (i := (n + 1) % ((((c :: S).map V.int).length : Nat) : Int)) (Int.emod_nonneg _ (by rw [List.length_map, List.length_cons]; omega))
        (Int.lt_of_lt_of_le (Int.emod_lt_of_pos _ (by rw [List.length_map, List.length_cons]; omega)) (by rw [List.length_map]; omega))
      walk_at "st"
      exact q _ _ (Int.emod_nonneg _ (by omega)) (Int.emod_lt_of_pos _ hm0) T kp
  | cons z r =>
    refine ite_dt (by rw [List.length_map, List.length_cons]; omega) ?_
    walk_at "st"
    rw [int_eq]
    refine ite_d (fun hz => ?_) fun hz => ?_
    · -- a great cell that is none any more
      walk_at "st"
      refine ⟨fun σ2 H2 => σ2 = [some (.ref t), some (.int m), none, none, none] ∧ Kp [t, b] H H2 ∧ H2 t = some (.lst [.ref b, .ref s, .int (n + 1)]) ∧ H2 b = some (.lst (r.map V.int)) ∧ H2 s = some (.lst (S.map V.int)),
        fun σ2 H2 ⟨e, k2, a1, a2, a3⟩ => ⟨r.length, by simp, e, k2, r, rfl, a1, a2, a3⟩, ?_⟩
      walk_at "st"
      refine g_popAt (n := 0) hb' (by decide) (by decide) (seq_zero (by simp)) rfl ?_
      exact ⟨rfl, kp.put (by simp), at_ne ntb ht', upd_same, at_ne nbs.symm hs'⟩
    · walk_at "st"
      refine ite_dt (by rw [List.length_map, List.length_cons]; omega) ?_
      walk_at "st"
      exact q _ _ (Int.emod_nonneg _ (by omega)) (Int.emod_lt_of_pos _ hm0) ⟨ntb, nts, nbs, (z / m) :: r, S, _, at_ne ntb ht', upd_same, at_ne nbs.symm hs'⟩ (kp.put (by simp))
def t_Ltape (K : PySem.W.Frag) : TS :=
  (tRet (tLst (tCons (tLc (iList K (tSl (rSlL K) (tVar 0) tNoPart (tPart (tC (.int 63))))) (gName 1) (tTest (tOp rGe (tCB rAbs (tCons (tVar 1) tNil)) (tOp rPow (tC (.int 10)) (tC (.int 18))))) (tCB rAbs (tCons (tVar 1) tNil)) [1]) (tCons (tCB (rListOf K) (tCons (tSl (rSlL K) (tVar 0) tNoPart (tPart (tC (.int 63)))) tNil)) (tCons (tC (.int 0)) tNil)))))
theorem pure_Ltape {K : PySem.W.Frag} {x : V} {H : Hp} {Q : VK} {E : XK} (h : sp_Ltape K [x] H Q E) : t_Ltape K { nx := fun _ H' => Q .non H', rt := Q } [some x, none] H := by
  obtain ⟨x, e, a, ns, rfl, hS, hl, q⟩ := h
  cases e
  unfold t_Ltape
  walk_at "st"
  rename_i p hp
  intro D hD
  have e63 : cutV (ns.map V.int) none (some 63) = ns.map V.int := by
    rw [cut_to (by decide), List.take_of_length_le (by rw [List.length_map]; exact hl)]
  rw [e63] at hD ⊢
  refine lc_list (K := K) (a := p) (xs := ns.map V.int) (fun i H' => Same H H' ∧ H' p = some (.lst (ns.map V.int)) ∧ ∃ A : List Int, A.length ≤ i ∧ H' D = some (.lst (A.map V.int)))
    ⟨(same_new hp).trans (same_new hD), at_new hD upd_same, [], Nat.le_refl _, upd_same⟩ (fun i H' _ h => SqL.of h.2.1) ?_ ?_
  · rintro i y H' hi ⟨s1, s2, A, hA, s3⟩
    obtain ⟨z, rfl, hz⟩ := map_get hi
    have hi63 : i < 63 := Nat.lt_of_lt_of_le (List.getElem?_eq_some_iff.mp hz).1 hl
    walk_at "st"
    refine ite_d (fun _ => ?_) fun _ => ⟨s1, s2, A, Nat.le_succ_of_le hA, s3⟩
    walk_at "st"
    have nDp : p ≠ D := ne_of_none (o := .lst (ns.map V.int)) upd_same hD
    have hD0 : Fr H D := (same_new hp).free hD
    refine ⟨A.map V.int, s3, by rw [List.length_map, sizeLine_eq]; omega, fun b o e => at_ne (ne_of_none e hD0) (s1 b o e), at_ne nDp s2, A ++ [if z < 0 then -z else z], by simp; omega, ?_⟩
    rw [upd_same, List.map_append]
    rfl
  · rintro H' ⟨s1, s2, A, hA, s3⟩
    have hS' := s1.seq hS
    have hD0 : Fr H D := (same_new hp).free hD
    walk_at "st"
    rename_i p1 hp1 p2 hp2 p3 hp3
    rw [e63] at hp2 hp3 ⊢
    exact q p3 D p2 _ (by walk_at "sm") (by walk_at "fr") hD0 (by walk_at "fr") ⟨by walk_at "ne", by walk_at "ne", by walk_at "ne", A, ns, 0, upd_same, by walk_at "at", by walk_at "at"⟩
/-! Y2: days, stays, nights. -/
open PySem PySem.Spec PyProof.Rows L2
def sp_nights_of (K : PySem.W.Frag) : Sp := Sp1 fun x H Q E => ∃ (a : Addr) (c g : Int), x = .ref a ∧ SqT K H a [.int c, .int g] ∧ c - 1000 ≤ g ∧ g ≤ c + 1000 ∧ -10000000 ≤ c ∧ c ≤ 10000000 ∧
  ∀ (p : Addr) (H' : Hp), Same H H' → Fr H p → H' p = some (.lst ((days c g).map V.int)) → Q (.ref p) H'
theorem g_nights {K : PySem.W.Frag} {a : Addr} {c g : Int} {H : Hp} {Q : VK} {E : XK} (h : SqT K H a [.int c, .int g]) (b : c - 1000 ≤ g ∧ g ≤ c + 1000 ∧ -10000000 ≤ c ∧ c ≤ 10000000)
    (q : ∀ (p : Addr) (H' : Hp), Same H H' → Fr H p → H' p = some (.lst ((days c g).map V.int)) → Q (.ref p) H') : sp_nights_of K ([.ref a] ++ []) H Q E :=
  ⟨_, rfl, a, c, g, rfl, h, b.1, b.2.1, b.2.2.1, b.2.2.2, q⟩
def t_nights_of (K : PySem.W.Frag) : TS :=
  (tRet (tLstRg (tRg2 (tOp (rIxT K) (tVar 0) (tC (.int 0))) (tOp (rIxT K) (tVar 0) (tC (.int 1))))))
theorem pure_nights_of {K : PySem.W.Frag} {x : V} {H : Hp} {Q : VK} {E : XK} (h : sp_nights_of K [x] H Q E) : t_nights_of K { nx := fun _ H' => Q .non H', rt := Q } [some x] H := by
  obtain ⟨x, e, a, c, g, rfl, hS, h1, h2, h3, h4, q⟩ := h
  cases e
  unfold t_nights_of
  walk_at "ss"
  refine ⟨⟨by omega, by omega, by omega, by omega, by omega⟩, fun p hp => q p _ (same_new hp) hp (by rw [upd_same, rgV_days])⟩
/-! YX: list.count of flat items; range of three arguments. -/
open PySem PySem.Spec PyProof.Rows L2
/-- l.count(y), flat items -/
def rCntV (K : PySem.W.Frag) : V → List V → Hp → VK → Prop := fun x vs H Q => ∃ (p : Addr) (xs : List V) (y : V), x = .ref p ∧ vs = [y] ∧ flatV y = true ∧ xs.all flatV = true ∧ SqL K H p xs ∧ Q (.int (xs.countP fun z => eqV z y : Nat)) H
theorem rg_up {n c : Nat} (hc : 0 < c) (hc2 : c < 1000000) (hn : n < 1000000) : RgC 0 ((n : Int) - c + 1) c (n / c) := by
  have e : Builtin.Range.rangeSize 0 ((n : Int) - c + 1) c = ((n / c : Nat) : Int) := by
    unfold Builtin.Range.rangeSize
    rw [if_pos (by omega)]
    by_cases h : c ≤ n
    · rw [if_pos (by omega)]
      have e1 : (n : Int) - c + 1 - 0 - 1 = ((n - c : Nat) : Int) := by omega
      rw [e1]
      have e2 : n / c = (n - c) / c + 1 := by
        have := Nat.sub_mul_div n c 1
        have h3 : 0 < n / c := Nat.div_pos h hc
        rw [Nat.mul_one] at this
        omega
      rw [e2]
      norm_cast
    · rw [if_neg (by omega), Nat.div_eq_of_lt (by omega)]
      rfl
  refine ⟨by omega, by omega, ?_, e⟩
  have h1 : n / c ≤ n := Nat.div_le_self n c
  unfold Builtin.Range.small
  rw [e]
  simp only [Builtin.Range.rangeFitsLong, Bool.and_eq_true, Bool.or_eq_true, decide_eq_true_eq, beq_iff_eq]
  rw [if_pos (show (c : Int) > 0 by omega)]
  simp only [Bool.and_eq_true, decide_eq_true_eq]
  generalize n / c = k at h1
  omega
/-! Y8: marked: which nights of bundles are free. -/
open PySem PySem.Spec PyProof.Rows L2
/-! ### the plain law -/
def ltP (a b : Pr) : Bool := decide (a.1 < b.1) || (decide (a.1 = b.1) && decide (a.2 < b.2))
theorem ltP_iff {a b : Pr} : ltP a b = true ↔ a.1 < b.1 ∨ (a.1 = b.1 ∧ a.2 < b.2) := by
  unfold ltP
  simp
def key (ps : List Int) (p : Nat) : Pr := (ps.getD p 0, (ps.length : Int) - p)
theorem key_inj {ps : List Int} {p q : Nat} (h : key ps p = key ps q) : p = q := by
  have := congrArg Prod.snd h
  simp only [key] at this
  omega
def bund (ps : List Int) (m b : Nat) : List Pr := (List.range m).map fun i => key ps (b * m + i)
def rank (ps : List Int) (m p : Nat) : Nat := (bund ps m (p / m)).countP fun k => ltP k (key ps p)
def isMk (ps : List Int) (m f p : Nat) : Bool := decide (p / m < ps.length / m) && decide (rank ps m p < f)
def mk (ps : List Int) (m f : Nat) : List Bool := (List.range ps.length).map fun p => isMk ps m f p
def mkO (ps : List Int) : Option (Int × Int) → List Bool
  | none => List.replicate ps.length false
  | some d => mk ps d.1.toNat d.2.toNat
theorem mkO_len (ps : List Int) (d : Option (Int × Int)) : (mkO ps d).length = ps.length := by
  cases d with
  | none => simp [mkO]
  | some d => simp [mkO, mk]
/-- in a list that rises strictly the first f are those with fewer than f below -/
theorem take_rank : ∀ {us : List Pr}, us.Pairwise (fun a b => ltP a b = true) → ∀ {x : Pr}, x ∈ us → ∀ f : Nat, x ∈ us.take f ↔ us.countP (fun k => ltP k x) < f
  | [], _, x, hx, f => by cases hx
  | u :: r, h, x, hx, f => by
    obtain ⟨h1, h2⟩ := List.pairwise_cons.mp h
    have irr : ∀ a : Pr, ltP a a = false := fun a => by
      rw [← Bool.not_eq_true, ltP_iff]
      omega
    cases f with
    | zero => simp
    | succ f =>
      rw [List.take_succ_cons, List.countP_cons]
      rcases List.mem_cons.mp hx with e | hx
      · subst e
        have e0 : r.countP (fun k => ltP k x) = 0 := List.countP_eq_zero.mpr fun k hk hh => by
          have h3 := ltP_iff.mp (h1 k hk)
          have h4 := ltP_iff.mp hh
          omega
        rw [e0, irr]
        simp
      · have hux := h1 x hx
        have nx : x ≠ u := fun e => by rw [e, irr] at hux; cases hux
        rw [hux, if_pos rfl]
        have ih := take_rank h2 hx f
        constructor
        · intro hm
          rcases List.mem_cons.mp hm with e | hm
          · exact absurd e nx
          · have := ih.mp hm
            omega
        · intro hm
          exact List.mem_cons_of_mem _ (ih.mpr (by omega))
theorem mem_bund {ps : List Int} {m b p : Nat} (hm : 0 < m) : key ps p ∈ bund ps m b ↔ p / m = b := by
  unfold bund
  rw [List.mem_map]
  constructor
  · rintro ⟨i, hi, e⟩
    have := key_inj e
    have hi' := List.mem_range.mp hi
    rw [← this, Nat.mul_comm, Nat.mul_add_div hm, Nat.div_eq_of_lt hi']
    omega
  · rintro rfl
    exact ⟨p % m, List.mem_range.mpr (Nat.mod_lt _ hm), by rw [Nat.mul_comm, Nat.div_add_mod]⟩
theorem nodup_bund (ps : List Int) (m b : Nat) : (bund ps m b).Nodup := by
  unfold bund
  refine List.Pairwise.map _ (fun i j (h : i ≠ j) e => h ?_) List.nodup_range
  have := key_inj e
  omega
/-- the sorted bundle rises strictly -/
theorem sorted_strict {ps : List Int} {m b : Nat} {us : List Pr} (hp : us.Perm (bund ps m b)) (ho : us.Pairwise fun p q => p.1 < q.1 ∨ (p.1 = q.1 ∧ p.2 ≤ q.2)) : us.Pairwise fun a b => ltP a b = true := by
  have nd : us.Nodup := hp.nodup_iff.mpr (nodup_bund ps m b)
  refine (ho.and nd).imp fun {x y} h => ltP_iff.mpr ?_
  rcases h.1 with h1 | ⟨h1, h2⟩
  · exact .inl h1
  · refine .inr ⟨h1, ?_⟩
    by_cases e : x.2 = y.2
    · exact absurd (Prod.ext h1 e) h.2
    · omega
theorem mem_take {ps : List Int} {m b f p : Nat} (hm : 0 < m) {us : List Pr} (hp : us.Perm (bund ps m b)) (ho : us.Pairwise fun p q => p.1 < q.1 ∨ (p.1 = q.1 ∧ p.2 ≤ q.2)) :
    key ps p ∈ us.take f ↔ p / m = b ∧ rank ps m p < f := by
  have hs := sorted_strict hp ho
  constructor
  · intro h
    have hu := List.mem_of_mem_take h
    have hb := (mem_bund hm).mp (hp.mem_iff.mp hu)
    refine ⟨hb, ?_⟩
    unfold rank
    rw [hb, ← hp.countP_eq]
    exact (take_rank hs hu f).mp h
  · rintro ⟨rfl, h⟩
    have hu := hp.mem_iff.mpr ((mem_bund hm).mpr rfl)
    refine (take_rank hs hu f).mpr ?_
    rw [hp.countP_eq]
    exact h
theorem set_map {β : Type} (n p : Nat) (f : Nat → β) (v : β) : ((List.range n).map f).set p v = (List.range n).map fun q => if q = p then v else f q := by
  apply List.ext_getElem (by simp)
  intro i h1 h2
  rw [List.getElem_set]
  simp
  by_cases h : p = i
  · rw [if_pos h, if_pos h.symm]
  · rw [if_neg h, if_neg (Ne.symm h)]
theorem ix_nat {n p : Nat} {i : Int} (e : i = p) (h : p < n) : ixN n i = some p := by
  subst e
  unfold ixN
  simp
  exact h
/-! ### the walk -/
def DealAt (H : Hp) (y : V) : Option (Int × Int) → Prop
  | none => y = .non
  | some d => PrAt H y d ∧ 0 < d.1 ∧ d.1 ≤ 1000 ∧ 0 ≤ d.2
def sp_marked (K : PySem.W.Frag) : Sp := Sp2 fun x y H Q E => ∃ (a : Addr) (ps : List Int) (d : Option (Int × Int)), x = .ref a ∧ SqL K H a (ps.map V.int) ∧ ps.length ≤ 1000 ∧ DealAt H y d ∧
  ∀ (l : Addr) (H' : Hp), Same H H' → Fr H l → H' l = some (.lst ((mkO ps d).map V.bl)) → Q (.ref l) H'
theorem g_marked {K : PySem.W.Frag} {a : Addr} {y : V} {ps : List Int} {H : Hp} {Q : VK} {E : XK} (d : Option (Int × Int)) (h : SqL K H a (ps.map V.int)) (hl : ps.length ≤ 1000) (hd : DealAt H y d)
    (q : ∀ (l : Addr) (H' : Hp), Same H H' → Fr H l → H' l = some (.lst ((mkO ps d).map V.bl)) → Q (.ref l) H') : sp_marked K ([.ref a, y] ++ []) H Q E := ⟨_, y, rfl, a, ps, d, rfl, h, hl, hd, q⟩
theorem range_no (n : Nat) : (List.range n).filterMap (fun _ => some (V.bl false)) = (List.replicate n false).map V.bl := by
  induction n with
  | zero => rfl
  | succ n ih => rw [List.range_succ, List.filterMap_append, ih, List.replicate_succ']; simp
def t_marked (K : PySem.W.Frag) : TS :=
  (tSeq (tAsg (tLc (iList K (tVar 0)) (gName 2) tYes (tC (.bl false)) [2]) (gName 3))
  (tSeq (tIfS (tTest (tOp rIsN (tVar 1) (tC .non)))
  (tRet (tVar 3))
  tNext)
  (tSeq (tAsg (tVar 1) (gTup K 2 (gCons (gName 4) (gCons (gName 5) gNil))))
  (tSeq (tFor (iRng3 (tCons (tC (.int 0)) (tCons (tOp rAdd (tOp rSub (tCB (rLen K) (tCons (tVar 0) tNil)) (tVar 4)) (tC (.int 1))) (tCons (tVar 4) tNil)))) (gName 6)
  (tSeq (tAsg (tCB (rSortedPO K) (tCons (tLc (iRng2 (tCons (tVar 6) (tCons (tOp rAdd (tVar 6) (tVar 4)) tNil))) (gName 9) tYes (tTup (tCons (tOp (rIxL K) (tVar 0) (tVar 9)) (tCons (tOp rSub (tCB (rLen K) (tCons (tVar 0) tNil)) (tVar 9)) tNil))) [9]) tNil)) (gName 7))
  (tFor (iList K (tSl (rSlL K) (tVar 7) tNoPart (tPart (tVar 5)))) (gTup K 2 (gCons (gName 2) (gCons (gName 8) gNil)))
  (tAsg (tC (.bl true)) (gSub (tVar 3) (tOp rSub (tCB (rLen K) (tCons (tVar 0) tNil)) (tVar 8)) rSetL)))))
  (tRet (tVar 3))))))
theorem pure_marked {K : PySem.W.Frag} {x y : V} {H : Hp} {Q : VK} {E : XK} (h : sp_marked K [x, y] H Q E) : t_marked K { nx := fun _ H' => Q .non H', rt := Q } [some x, some y, none, none, none, none, none, none, none, none] H := by
  obtain ⟨x, y, e, a, ps, d, rfl, hS, hl, hd, q⟩ := h
  cases e
  unfold t_marked
  walk_at "ss"
  refine lc_w (f := fun _ => some (.bl false)) (walk_list (K := K) (a := a) (xs := ps.map V.int)) (by rw [List.length_map]; omega) (fun H' s => Same.seq s hS) ?_ ?_
  · rintro D i x H2 H3 N hD hi hs ⟨rfl, hx⟩ hN _
    walk_at "ss"
    exact hN _ _ rfl (Same.refl _)
  intro D H1 hD s1 hD1
  rw [range_no, List.length_map] at hD1
  walk_at "ss"
  cases d with
  | none =>
    obtain rfl : y = .non := hd
    refine ite_dt rfl ?_
    walk_at "ss"
    exact q D _ s1 hD hD1
  | some d =>
    obtain ⟨⟨dv, rfl, hdv⟩, hd1, hd2, hd3⟩ := hd
    obtain ⟨m, hm⟩ : ∃ m : Nat, d.1 = m := ⟨d.1.toNat, by omega⟩
    obtain ⟨f, hf⟩ : ∃ f : Nat, d.2 = f := ⟨d.2.toNat, by omega⟩
    rw [hm, hf] at hdv
    refine ite_df (by simp) ?_
    walk_at "ss"
    refine ⟨_, _, _, _, rfl, rg_up (n := (ps.map V.int).length) (c := m) (by omega) (by omega) (by rw [List.length_map]; omega), ?_⟩
    rw [List.length_map]
    have nal : ∀ H2 : Hp, Same H1 H2 → SqL K H2 a (ps.map V.int) := fun H2 s2 => Same.seq (s1.trans s2) hS
    refine for_rangeC (lo := 0) (c := (m : Int)) (n := ps.length / m) (fun b σ H' => ∃ v2 v6 v7 v8, σ = [some (.ref a), some (.ref dv), v2, some (.ref D), some (.int m), some (.int f), v6, v7, v8, none] ∧ Same H H' ∧ H' D = some (.lst (((List.range ps.length).map fun p => decide (p / m < b) && decide (rank ps m p < f)).map V.bl)))
      ⟨_, _, _, _, rfl, s1, ?h0⟩ ?_ ?_
    case h0 =>
      rw [hD1]
      congr 3
      apply List.ext_getElem (by simp)
      intro i h1 h2
      simp
    · clear hD1 s1 nal H1 q
      rintro b σ H1 hb ⟨v2, v6, v7, v8, rfl, s1, hD1⟩
      have hbm : b * m + m ≤ ps.length := by
        have h1 := Nat.div_mul_le_self ps.length m
        have h2 : (b + 1) * m ≤ ps.length / m * m := Nat.mul_le_mul_right m hb
        rw [Nat.add_mul, Nat.one_mul] at h2
        omega
      have hbm' : (b : Int) * (m : Int) = ((b * m : Nat) : Int) := by push_cast; rfl
      rw [hbm']
      walk_at "ss"
      rw [show (0 + ((b * m : Nat) : Int) + (m : Int) - (0 + ((b * m : Nat) : Int))).toNat = m by omega]
      refine lc_r (walk_range (lo := 0 + ((b * m : Nat) : Int)) (n := m)) PrAt (fun _ _ _ _ e h => pr_tk e h) (fun i => some (key ps (b * m + i))) (by omega) (fun _ _ => trivial) ?_ ?_
      · rintro D2 i x H2 H3 N hD2 hi s2 ⟨rfl, rfl⟩ hN _
        have hat : atI (ps.map V.int) (0 + ((b * m : Nat) : Int) + (i : Int)) = some (.int (ps.getD (b * m + i) 0)) := by
          have h1 : b * m + i < ps.length := by omega
          have h2 := atI_nat (xs := ps.map V.int) (j := b * m + i) (v := .int (ps.getD (b * m + i) 0)) (by rw [List.getElem?_map, List.getElem?_eq_getElem h1, List.getD_eq_getElem?_getD, List.getElem?_eq_getElem h1]; rfl)
          rw [show (0 + ((b * m : Nat) : Int) + (i : Int)) = ((b * m + i : Nat) : Int) by omega]
          exact h2
        have hSq : SqL K H3 a (ps.map V.int) := Same.seq (s1.trans s2) hS
        walk_at "ss"
        rename_i p hp
        refine hN _ _ _ rfl (same_new hp) ⟨p, rfl, ?_⟩
        rw [upd_same]
        unfold key
        rw [List.length_map, show (0 + ((b * m : Nat) : Int) + (i : Int)) = ((b * m + i : Nat) : Int) by omega]
      intro D2 H2 ys hD2 s2 h2 hP
      have eb : (List.range m).filterMap (fun i => some (key ps (b * m + i))) = bund ps m b := congrFun (List.filterMap_eq_map (f := fun i => key ps (b * m + i))) (List.range m)
      rw [eb] at hP
      walk_at "ss"
      rename_i p3 zs us hp3 hzs hper hord p4 hp4
      have n1 : p3 ≠ D := by walk_at "ne"
      have n2 : p4 ≠ D := by walk_at "ne"
      have h4 : (upd (upd H2 p3 (.lst zs)) p4 (.lst (cutV zs none (some (f : Int))))) p4 = some (.lst (zs.take f)) := by rw [upd_same, cut_to (by omega), Int.toNat_natCast]
      have hPt : PrsAt (upd (upd H2 p3 (.lst zs)) p4 (.lst (cutV zs none (some (f : Int))))) (zs.take f) (us.take f) := by
        have := Paired.take f hzs
        walk_at "prs"
      refine for_list (K := K) (a := p4) (xs := zs.take f) (fun j σ H' => ∃ v2 v8, σ = [some (.ref a), some (.ref dv), v2, some (.ref D), some (.int m), some (.int f), some (.int (0 + ((b * m : Nat) : Int))), some (.ref p3), v8, none] ∧ Same H H' ∧ H' p4 = some (.lst (zs.take f)) ∧ PrsAt H' (zs.take f) (us.take f) ∧
          H' D = some (.lst (((List.range ps.length).map fun p => (decide (p / m < b) && decide (rank ps m p < f)) || decide (key ps p ∈ (us.take f).take j)).map V.bl)))
        ⟨_, _, rfl, by walk_at "sm", h4, hPt, ?h0⟩ (fun j σ H' _ h => by obtain ⟨_, _, _, _, h, _⟩ := h; exact SqL.of h) ?_ ?_
      case h0 =>
        have hD2 : H2 D = some _ := s2 _ _ hD1
        have := at_new (u := .lst (cutV zs none (some (f : Int)))) hp4 (at_new (u := .lst zs) hp3 hD2)
        rw [this]
        simp
      · clear hPt h4 hp4 hzs hp3 hP h2 s2 H2 hD1 s1 H1 hD2
        rintro j x σ H' hj ⟨v2, v8, rfl, s1, h4, hPt, hD1⟩
        obtain ⟨r, hr, w, rfl, hw⟩ := Paired.getL hPt hj
        have hrm := List.mem_of_getElem? hr
        have hru : r ∈ bund ps m b := hper.mem_iff.mp (List.mem_of_mem_take hrm)
        obtain ⟨i, hi, rfl⟩ := List.mem_map.mp hru
        have hi' := List.mem_range.mp hi
        have hSq : SqL K H' a (ps.map V.int) := Same.seq s1 hS
        have hlt : b * m + i < ps.length := by omega
        walk_at "ss"
        refine g_setL hD1 (ix_nat (p := b * m + i) ?gix1 ?gix2) ?_
        case gix1 =>
          rw [List.length_map]
          unfold key
          show (ps.length : Int) - ((ps.length : Int) - ((b * m + i : Nat) : Int)) = _
          omega
        case gix2 =>
          rw [List.length_map, List.length_map, List.length_range]
          exact hlt
        refine ⟨_, _, rfl, by walk_at "sm", at_ne n2 h4, by walk_at "prs", ?_⟩
        rw [upd_same, show V.bl true = V.bl true from rfl, ← List.map_set, set_map]
        congr 3
        refine List.map_congr_left fun q hq => ?_
        rw [List.take_add_one, hr, Option.toList_some]
        by_cases e : q = b * m + i
        · subst e
          simp
        · have e2 : ¬ key ps q = key ps (b * m + i) := fun h => e (key_inj h)
          simp [e, e2]
      · rintro σ H' ⟨v2, v8, rfl, s1, h4, hPt, hD1⟩
        have hlz := Paired.length hPt
        rw [List.take_of_length_le (Nat.le_of_eq hlz.symm)] at hD1
        refine ⟨_, _, _, _, rfl, s1, ?_⟩
        rw [hD1]
        congr 3
        refine List.map_congr_left fun q hq => ?_
        have hmm : 0 < m := by omega
        have e := mem_take (ps := ps) (m := m) (b := b) (f := f) (p := q) hmm hper hord
        rw [Bool.eq_iff_iff]
        simp only [Bool.or_eq_true, Bool.and_eq_true, decide_eq_true_eq, e]
        constructor
        · rintro (⟨h1, h2⟩ | ⟨h1, h2⟩)
          · exact ⟨by omega, h2⟩
          · exact ⟨by omega, h2⟩
        · rintro ⟨h1, h2⟩
          by_cases h3 : q / m < b
          · exact .inl ⟨h3, h2⟩
          · exact .inr ⟨by omega, h2⟩
    · rintro σ H' ⟨v2, v6, v7, v8, rfl, s1, hD1⟩
      walk_at "ss"
      refine q D _ s1 hD ?_
      rw [hD1]
      unfold mkO
      show _ = some (HO.lst ((mk ps d.1.toNat d.2.toNat).map V.bl))
      rw [hm, hf]
      rfl
/-! YR: a list's items from back to front (a slice of step -1). -/
open PySem PySem.Spec PyProof.Rows L2
theorem range_get' {α : Type} (l : List α) (n : Nat) : (List.range n).filterMap (fun k => l[k]?) = l.take n := by
  induction n with
  | zero => simp
  | succ n ih =>
    rw [List.range_succ, List.filterMap_append, ih, List.take_add_one]
    cases e : l[n]? <;> simp [e]
theorem range_get {α : Type} (l : List α) : (List.range l.length).filterMap (fun k => l[k]?) = l := by
  rw [range_get', List.take_length]
/-- l[::step], of a step that is -1 -/
def rRevS (K : PySem.W.Frag) : V → Option Int → Hp → VK → Prop := fun x o H2 Q => o = some (-1) ∧ ∃ a xs, x = .ref a ∧ SqL K H2 a xs ∧ ∀ p, H2 p = none → Q (.ref p) (upd H2 p (.lst xs.reverse))
def tRevS (K : PySem.W.Frag) (te : TE) (tst : TO) : TE := fun σ H Q => te σ H fun x H1 => tst σ H1 fun o H2 => rRevS K x o H2 Q
/-! YA: data of any shape in the heap. -/
open PySem PySem.Spec PyProof.Rows L2
mutual
/-- v is laid as d; its lists and tuples stand at none of L -/
inductive At (H : Hp) (L : List Addr) : V → PyData → Prop
  | non : At H L .non .none
  | bl (b : Bool) : At H L (.bl b) (.bool b)
  | int (i : Int) : At H L (.int i) (.int i)
  | str (z : Str) : At H L (.str z) (.str z)
  | lst {a : Addr} {xs : List V} {ds : List PyData} (n : a ∉ L) (h : H a = some (.lst xs)) (r : Ats H L xs ds) : At H L (.ref a) (.list ds)
  | tup {a : Addr} {xs : List V} {ds : List PyData} (n : a ∉ L) (h : H a = some (.tup xs)) (r : Ats H L xs ds) : At H L (.ref a) (.tuple ds)
inductive Ats (H : Hp) (L : List Addr) : List V → List PyData → Prop
  | nil : Ats H L [] []
  | cons {v : V} {vs : List V} {d : PyData} {ds : List PyData} (h : At H L v d) (r : Ats H L vs ds) : Ats H L (v :: vs) (d :: ds)
end
theorem Ats.len {H : Hp} {L : List Addr} : ∀ {vs : List V} {ds : List PyData}, Ats H L vs ds → vs.length = ds.length
  | _, _, .nil => rfl
  | _, _, .cons _ r => by rw [List.length_cons, List.length_cons, Ats.len r]
mutual
theorem At.mono {H H' : Hp} {L L' : List Addr} (k : ∀ a o, H a = some o → a ∉ L → H' a = some o) (l : ∀ a ∈ L', a ∈ L) : ∀ {v : V} {d : PyData}, At H L v d → At H' L' v d
  | _, _, .non => .non
  | _, _, .bl b => .bl b
  | _, _, .int i => .int i
  | _, _, .str z => .str z
  | _, _, .lst n h r => .lst (fun z => n (l _ z)) (k _ _ h n) (Ats.mono k l r)
  | _, _, .tup n h r => .tup (fun z => n (l _ z)) (k _ _ h n) (Ats.mono k l r)
theorem Ats.mono {H H' : Hp} {L L' : List Addr} (k : ∀ a o, H a = some o → a ∉ L → H' a = some o) (l : ∀ a ∈ L', a ∈ L) : ∀ {vs : List V} {ds : List PyData}, Ats H L vs ds → Ats H' L' vs ds
  | _, _, .nil => .nil
  | _, _, .cons h r => .cons (At.mono k l h) (Ats.mono k l r)
end
theorem At.kp {H H' : Hp} {L : List Addr} {v : V} {d : PyData} (k : Kp L H H') (h : At H L v d) : At H' L v d := h.mono k fun _ z => z
theorem At.same {H H' : Hp} {L : List Addr} {v : V} {d : PyData} (k : Same H H') (h : At H L v d) : At H' L v d := h.mono (fun a o e _ => k a o e) fun _ z => z
theorem At.nil {H : Hp} {L : List Addr} {v : V} {d : PyData} (h : At H L v d) : At H [] v d := h.mono (fun _ _ e _ => e) fun _ z => by simp at z
theorem at_new' {H : Hp} {L : List Addr} {p : Addr} {o : HO} {v : V} {d : PyData} (hp : Fr H p) (h : At H L v d) : At (upd H p o) L v d := h.same (same_new hp)
mutual
theorem At.dp {K : PySem.W.Frag} {H : Hp} {L : List Addr} : ∀ {v : V} {d : PyData}, At H L v d → Dp K H v d
  | _, _, .non => .non
  | _, _, .bl b => .bl b
  | _, _, .int i => .int i
  | _, _, .str z => .str z
  | _, _, .lst _ h r => .lst (SqL.of h) (Ats.dp r)
  | _, _, .tup _ h r => .tup (SqT.of h) (Ats.dp r)
theorem Ats.dp {K : PySem.W.Frag} {H : Hp} {L : List Addr} : ∀ {vs : List V} {ds : List PyData}, Ats H L vs ds → DpAll K H vs ds
  | _, _, .nil => .nil
  | _, _, .cons h r => .cons (At.dp h) (Ats.dp r)
end
theorem at_tup0 {H : Hp} {a : Addr} {xs : List V} {ds : List PyData} (h : H a = some (.tup xs)) (r : Ats H [] xs ds) : At H [] (.ref a) (.tuple ds) := .tup (by simp) h r
theorem at_lst0 {H : Hp} {a : Addr} {xs : List V} {ds : List PyData} (h : H a = some (.lst xs)) (r : Ats H [] xs ds) : At H [] (.ref a) (.list ds) := .lst (by simp) h r
mutual
/-- data of tuples alone -/
inductive Td (H : Hp) : V → PyData → Prop
  | non : Td H .non .none
  | bl (b : Bool) : Td H (.bl b) (.bool b)
  | int (i : Int) : Td H (.int i) (.int i)
  | str (z : Str) : Td H (.str z) (.str z)
  | tup {a : Addr} {xs : List V} {ds : List PyData} (h : H a = some (.tup xs)) (r : Tds H xs ds) : Td H (.ref a) (.tuple ds)
inductive Tds (H : Hp) : List V → List PyData → Prop
  | nil : Tds H [] []
  | cons {v : V} {vs : List V} {d : PyData} {ds : List PyData} (h : Td H v d) (r : Tds H vs ds) : Tds H (v :: vs) (d :: ds)
end
mutual
theorem Td.tk {H H' : Hp} (k : Tk H H') : ∀ {v : V} {d : PyData}, Td H v d → Td H' v d
  | _, _, .non => .non
  | _, _, .bl b => .bl b
  | _, _, .int i => .int i
  | _, _, .str z => .str z
  | _, _, .tup h r => .tup (k _ _ h) (Tds.tk k r)
theorem Tds.tk {H H' : Hp} (k : Tk H H') : ∀ {vs : List V} {ds : List PyData}, Tds H vs ds → Tds H' vs ds
  | _, _, .nil => .nil
  | _, _, .cons h r => .cons (Td.tk k h) (Tds.tk k r)
end
mutual
theorem Td.at {H : Hp} {L : List Addr} (l : ∀ a xs, H a = some (.tup xs) → a ∉ L) : ∀ {v : V} {d : PyData}, Td H v d → At H L v d
  | _, _, .non => .non
  | _, _, .bl b => .bl b
  | _, _, .int i => .int i
  | _, _, .str z => .str z
  | _, _, .tup h r => .tup (l _ _ h) h (Tds.at l r)
theorem Tds.at {H : Hp} {L : List Addr} (l : ∀ a xs, H a = some (.tup xs) → a ∉ L) : ∀ {vs : List V} {ds : List PyData}, Tds H vs ds → Ats H L vs ds
  | _, _, .nil => .nil
  | _, _, .cons h r => .cons (Td.at l h) (Tds.at l r)
end
theorem Td.at0 {H : Hp} {v : V} {d : PyData} (h : Td H v d) : At H [] v d := h.at fun _ _ _ z => by simp at z
theorem td_new {H : Hp} {p : Addr} {o : HO} {v : V} {d : PyData} (hp : Fr H p) (h : Td H v d) : Td (upd H p o) v d := h.tk (tk_new hp)
theorem td_put {H : Hp} {p : Addr} {o : HO} {zs : List V} {v : V} {d : PyData} (hp : H p = some (.lst zs)) (h : Td H v d) : Td (upd H p o) v d := h.tk (tk_put hp)
theorem td_same {H H' : Hp} {v : V} {d : PyData} (k : Same H H') (h : Td H v d) : Td H' v d := h.tk (Same.tk k)
theorem td_tup {H : Hp} {a : Addr} {xs : List V} {ds : List PyData} (h : H a = some (.tup xs)) (r : Tds H xs ds) : Td H (.ref a) (.tuple ds) := .tup h r
theorem tds_cons {H : Hp} {v : V} {vs : List V} {d : PyData} {ds : List PyData} (h : Td H v d) (r : Tds H vs ds) : Tds H (v :: vs) (d :: ds) := .cons h r
theorem Td.dp {K : PySem.W.Frag} {H : Hp} {v : V} {d : PyData} (h : Td H v d) : Dp K H v d := h.at0.dp
/-! ### the length of what is shown -/
theorem digits_bound {i : Int} (h : i.natAbs < 10 ^ 70) : (PySem.Str.ofString (toString i)).length ≤ 71 := by
  have up : ∀ m : Nat, m < 10 ^ 70 → (PySem.Str.ofString (toString (m : Int))).length ≤ 70 := fun m hm => toString_length_le (v := (m : Int)) (Int.natCast_nonneg m) (k := 70) (by decide) (by exact_mod_cast hm)
  cases i with
  | ofNat m =>
    have := up m (by simpa using h)
    exact Nat.le_succ_of_le this
  | negSucc m =>
    have h1 := up (m + 1) (by simpa [Int.natAbs] using h)
    rw [PySem.ofString_length] at h1 ⊢
    show ("-" ++ toString (m + 1)).length ≤ 71
    rw [String.length_append]
    have h2 : (toString ((m + 1 : Nat) : Int)) = toString (m + 1) := rfl
    rw [h2] at h1
    have h3 : "-".length = 1 := rfl
    omega
theorem join_up (ts : List Str) : (Str.join ", " ts).length ≤ piled ts := by
  by_cases h : ts = []
  · subst h
    exact Nat.le_refl _
  · have := join_length_add ts h
    omega
theorem tupText_up (ts : List Str) : (tupleText ts).length ≤ piled ts + 3 := by
  unfold tupleText
  rw [strLen_append, strLen_append]
  have h1 : (("(" : String) : Str).length = 1 := rfl
  have h2 : ((if ts.length == 1 then ",)" else ")" : String) : Str).length ≤ 2 := by split <;> decide
  have := join_up ts
  omega
theorem from_up : ∀ (ts : List Str) (k : Nat) (acc : Str), (textFrom k acc ts).length ≤ acc.length + piled ts
  | [], k, acc => Nat.le_add_right _ _
  | t :: r, k, acc => by
    have h := from_up r (k + 1) (acc ++ (if k > 0 then ", " else "" : String) ++ t)
    have e : ((if k > 0 then ", " else "" : String) : Str).length ≤ 2 := by split <;> decide
    rw [strLen_append, strLen_append] at h
    rw [piled_cons]
    exact Nat.le_trans h (by omega)
theorem lstText_up (ts : List Str) : (listText ts).length ≤ piled ts + 3 := by
  unfold listText
  rw [strLen_append]
  have h1 : (("[" : String) : Str).length = 1 := rfl
  have h2 : (("]" : String) : Str).length = 1 := rfl
  have := from_up ts 0 ("[" : String)
  omega
/-- may be shown: by so many signs, so deep -/
structure Sho (k m : Nat) (d : PyData) : Prop where
  sh : d.showable = true
  nd : d.hasDict = false
  dp : d.depth ≤ k
  sz : d.shown.length ≤ m
theorem Sho.mono {k m k' m' : Nat} {d : PyData} (h : Sho k m d) (a : k ≤ k') (b : m ≤ m') : Sho k' m' d := ⟨h.sh, h.nd, Nat.le_trans h.dp a, Nat.le_trans h.sz b⟩
theorem sho_non (k : Nat) : Sho k 80 .none := ⟨rfl, rfl, Nat.zero_le _, by decide⟩
theorem sho_bl (k : Nat) (b : Bool) : Sho k 80 (.bool b) := ⟨rfl, rfl, Nat.zero_le _, by cases b <;> decide⟩
theorem log70 {n : Nat} (h : n < 10 ^ 70) : n.log2 < 1920 := by
  by_cases z : n = 0
  · subst z; decide
  · rw [Nat.log2_lt z]
    exact Nat.lt_trans h (by decide)
theorem sho_int (k : Nat) {i : Int} (h : i.natAbs < 10 ^ 70) : Sho k 80 (.int i) := ⟨decide_eq_true (log70 h), rfl, Nat.zero_le _, Nat.le_trans (digits_bound h) (by decide)⟩
theorem sho_all {k m : Nat} : ∀ {ds : List PyData}, (∀ x ∈ ds, Sho k m x) → PyData.showableAll ds = true ∧ PyData.depthAll ds ≤ k ∧ piled (PyData.shownAll ds) ≤ ds.length * (m + 2)
  | [], _ => ⟨rfl, Nat.zero_le _, Nat.zero_le _⟩
  | d :: ds, h => by
    obtain ⟨h1, h2, h3⟩ := sho_all fun x hx => h x (List.mem_cons_of_mem _ hx)
    have hd := h d (by simp)
    refine ⟨?_, ?_, ?_⟩
    · rw [PyData.showableAll, hd.sh, h1]; rfl
    · rw [PyData.depthAll]; exact Nat.max_le.mpr ⟨hd.dp, h2⟩
    · rw [PyData.shownAll, piled_cons, List.length_cons, Nat.succ_mul]
      have := hd.sz
      omega
theorem nd_all {k m : Nat} : ∀ {ds : List PyData}, (∀ x ∈ ds, Sho k m x) → PyData.hasDictAll ds = false
  | [], _ => rfl
  | d :: ds, h => by rw [PyData.hasDictAll, (h d (by simp)).nd, nd_all fun x hx => h x (List.mem_cons_of_mem _ hx)]; rfl
theorem sho_tup {k m : Nat} {ds : List PyData} (h : ∀ x ∈ ds, Sho k m x) : Sho (k + 1) (ds.length * (m + 2) + 3) (.tuple ds) := by
  obtain ⟨h1, h2, h3⟩ := sho_all h
  refine ⟨by rw [PyData.showable]; exact h1, by rw [PyData.hasDict]; exact nd_all h, by rw [PyData.depth]; omega, ?_⟩
  rw [PyData.shown]
  have := tupText_up (PyData.shownAll ds)
  omega
theorem sho_lst {k m : Nat} {ds : List PyData} (h : ∀ x ∈ ds, Sho k m x) : Sho (k + 1) (ds.length * (m + 2) + 3) (.list ds) := by
  obtain ⟨h1, h2, h3⟩ := sho_all h
  refine ⟨by rw [PyData.showable]; exact h1, by rw [PyData.hasDict]; exact nd_all h, by rw [PyData.depth]; omega, ?_⟩
  rw [PyData.shown]
  have := lstText_up (PyData.shownAll ds)
  omega
theorem g_repr {K : PySem.W.Frag} {H : Hp} {Q : VK} {x : V} {d : PyData} {k m : Nat} (h : Dp K H x d) (s : Sho k m d) (hk : k ≤ 60) (hm : m ≤ 1000000) (q : Q (.str d.shown) H) : rReprD K [x] H Q :=
  ⟨x, d, rfl, h, s.sh, s.nd, Nat.le_trans s.dp hk, by rw [sizeLine_eq]; have := s.sz; omega, q⟩
/-! YK: kinds of rules, their classes; what the rules' defs promise. -/
open PySem PySem.Spec PyProof.Rows L2
/-- the words of rules -/
inductive Wd | price | come | go | least | most | deal | fee
  deriving DecidableEq
def Wd.cls : Wd → Str
  | .price => "Price" | .come => "Come" | .go => "Go" | .least => "Least" | .most => "Most" | .deal => "Deal" | .fee => "Fee"
def Wd.word : Wd → Str
  | .price => "price" | .come => "come" | .go => "go" | .least => "least" | .most => "most" | .deal => "deal" | .fee => "fee"
abbrev aC (K : PySem.W.Frag) (w : Wd) : Addr := He.ga K w.cls
theorem Wd.mem (w : Wd) : w.cls ∈ ruleCls := by cases w <;> decide
def CFR (K : PySem.W.Frag) : Prop := exRules K = true
section
variable {K : PySem.W.Frag} (c : CFR K)
include c
theorem CFR.one (w : Wd) : ((He.Fa.cls w.cls).ok K && ((["first", "last", "worth"] : List Str).all (fun f => (He.Fa.noat w.cls f).ok K) && (tyB K (He.ga K w.cls) && isiB K w.cls "Rule" true))) = true :=
  List.all_eq_true.mp (He.ba c).1 _ w.mem
theorem CFR.cls (w : Wd) : Cls K (aC K w) := He.cls_ok (He.ba (CFR.one c w)).1
theorem CFR.no (w : Wd) {f : Str} (h : f ∈ (["first", "last", "worth"] : List Str)) : NoAttr K (aC K w) f := He.noat_ok (List.all_eq_true.mp (He.ba (He.ba (CFR.one c w)).2).1 f h)
theorem CFR.words (H : Hp) : SqT K H (He.ga K "WORDS") (wordsL.map V.str) := by
  have h := He.tupB_ok (He.ba (He.ba c).2).2 H
  rw [List.map_map] at h
  exact h
end
/-! ### data of rules -/
def isW : PyData → Bool
  | .int _ => true
  | _ => false
def isDay : PyData → Bool
  | .int i => decide (0 ≤ i) && decide (i ≤ 1000000)
  | _ => false
def is2 : PyData → Bool
  | .tuple [a, b] => isDay a && isDay b
  | _ => false
def isStr : PyData → Bool
  | .tuple [.int a, .int b] => isDay (.int a) && (isDay (.int b) && decide (a ≤ b))
  | _ => false
def isCoins : PyData → Bool
  | .int i => decide (0 ≤ i) && decide (i ≤ 1000000000000)
  | _ => false
def isNights : PyData → Bool
  | .int i => decide (1 ≤ i) && decide (i ≤ 14)
  | _ => false
def isNone : PyData → Bool
  | .none => true
  | _ => false
def isBool : PyData → Bool
  | .bool _ => true
  | _ => false
def isDeal : PyData → Bool
  | .none => true
  | .tuple [a, .int f] => isNights a && (match a with | .int m => decide (1 ≤ f) && decide (f < m) | _ => false)
  | _ => false
def fitsD : Wd → PyData → Bool
  | .price, d => isNone d || isCoins d
  | .come, d => isBool d
  | .go, d => isBool d
  | .least, d => isNights d
  | .most, d => isNights d
  | .deal, d => isDeal d
  | .fee, d => isCoins d
structure RuleD where
  w : Wd
  f : Int
  l : Int
  d : PyData
def RuleD.told (r : RuleD) : PyData := .tuple [.str r.w.word, .int r.f, .int r.l, r.d]
def RuleD.good (r : RuleD) : Prop := 0 ≤ r.f ∧ r.f ≤ r.l ∧ r.l ≤ 1000000 ∧ fitsD r.w r.d = true
/-- a rule's object -/
def RuleAt (K : PySem.W.Frag) (H : Hp) (v : V) (r : RuleD) : Prop := ∃ (a dx : Addr) (wv : V), v = .ref a ∧ H a = some (.ins (aC K r.w) dx [("first", .int r.f), ("last", .int r.l), ("worth", wv)]) ∧ Td H wv r.d
/-! ### promises -/
def sp_is_whole (K : PySem.W.Frag) : Sp := Sp1 fun x H Q E => ∃ d, At H [] x d ∧ Q (.bl (isW d)) H
theorem g_is_whole {K : PySem.W.Frag} {H : Hp} {Q : VK} {E : XK} {x : V} {d : PyData} (h : At H [] x d) (q : Q (.bl (isW d)) H) : sp_is_whole K ([x] ++ []) H Q E := ⟨x, rfl, d, h, q⟩
def sp_is_day (K : PySem.W.Frag) : Sp := Sp1 fun x H Q E => ∃ d, At H [] x d ∧ Q (.bl (isDay d)) H
theorem g_is_day {K : PySem.W.Frag} {H : Hp} {Q : VK} {E : XK} {x : V} {d : PyData} (h : At H [] x d) (q : Q (.bl (isDay d)) H) : sp_is_day K ([x] ++ []) H Q E := ⟨x, rfl, d, h, q⟩
def sp_is_two_days (K : PySem.W.Frag) : Sp := Sp1 fun x H Q E => ∃ d, At H [] x d ∧ Q (.bl (is2 d)) H
theorem g_is_two_days {K : PySem.W.Frag} {H : Hp} {Q : VK} {E : XK} {x : V} {d : PyData} (h : At H [] x d) (q : Q (.bl (is2 d)) H) : sp_is_two_days K ([x] ++ []) H Q E := ⟨x, rfl, d, h, q⟩
def sp_is_stretch (K : PySem.W.Frag) : Sp := Sp1 fun x H Q E => ∃ d, At H [] x d ∧ Q (.bl (isStr d)) H
theorem g_is_stretch {K : PySem.W.Frag} {H : Hp} {Q : VK} {E : XK} {x : V} {d : PyData} (h : At H [] x d) (q : Q (.bl (isStr d)) H) : sp_is_stretch K ([x] ++ []) H Q E := ⟨x, rfl, d, h, q⟩
def sp_is_coins (K : PySem.W.Frag) : Sp := Sp1 fun x H Q E => ∃ d, At H [] x d ∧ Q (.bl (isCoins d)) H
theorem g_is_coins {K : PySem.W.Frag} {H : Hp} {Q : VK} {E : XK} {x : V} {d : PyData} (h : At H [] x d) (q : Q (.bl (isCoins d)) H) : sp_is_coins K ([x] ++ []) H Q E := ⟨x, rfl, d, h, q⟩
def sp_is_nights (K : PySem.W.Frag) : Sp := Sp1 fun x H Q E => ∃ d, At H [] x d ∧ Q (.bl (isNights d)) H
theorem g_is_nights {K : PySem.W.Frag} {H : Hp} {Q : VK} {E : XK} {x : V} {d : PyData} (h : At H [] x d) (q : Q (.bl (isNights d)) H) : sp_is_nights K ([x] ++ []) H Q E := ⟨x, rfl, d, h, q⟩
theorem and_t {a b : Bool} {Q : VK} {H : Hp} (h : a = true) (q : Q (.bl (a && b)) H) : Q (.bl b) H := by rwa [h, Bool.true_and] at q
theorem and_f {a b : Bool} {Q : VK} {H : Hp} (h : a = false) (q : Q (.bl (a && b)) H) : Q (.bl false) H := by rwa [h, Bool.false_and] at q
/-! YJ: rules' objects: their fields, their making, their methods. -/
open PySem PySem.Spec PyProof.Rows L2
/-- an object of the class of w with these three fields -/
def InsAt (K : PySem.W.Frag) (H : Hp) (v : V) (w : Wd) (x y z : V) : Prop := ∃ a dx, v = .ref a ∧ H a = some (.ins (aC K w) dx [("first", x), ("last", y), ("worth", z)])
/-- all that is no list stays -/
def Nk (H H' : Hp) : Prop := ∀ a o, H a = some o → (∀ xs, o ≠ .lst xs) → H' a = some o
theorem Nk.trans {H H1 H2 : Hp} (a : Nk H H1) (b : Nk H1 H2) : Nk H H2 := fun c o h n => b c o (a c o h n) n
theorem Same.nk {H H' : Hp} (e : Same H H') : Nk H H' := fun a o h _ => e _ _ h
theorem Nk.tk {H H' : Hp} (k : Nk H H') : Tk H H' := fun a xs h => k a _ h fun ys z => by cases z
theorem nk_new {H : Hp} {p : Addr} {o : HO} (h : Fr H p) : Nk H (upd H p o) := Same.nk (same_new h)
theorem nk_put {H : Hp} {p : Addr} {o : HO} {zs : List V} (h : H p = some (.lst zs)) : Nk H (upd H p o) := fun a u e n => at_ne (fun z => by rw [z, h] at e; cases e; exact n _ rfl) e
theorem nk_kp {H H' : Hp} {t b s : Addr} (T : Tape H t b s) (k : Kp [t, b] H H') : Nk H H' := fun a o e n => k a _ e fun m => by
  obtain ⟨⟨_, h1⟩, _, h2⟩ := tape_lst T
  rcases List.mem_cons.mp m with z | m
  · rw [z, h1] at e; cases e; exact n _ rfl
  · rw [List.mem_singleton.mp m, h2] at e; cases e; exact n _ rfl
section
variable {K : PySem.W.Frag} {H H' : Hp} {v x y z : V} {w : Wd} {r : RuleD}
theorem InsAt.nk (k : Nk H H') (h : InsAt K H v w x y z) : InsAt K H' v w x y z := let ⟨a, dx, e, h⟩ := h; ⟨a, dx, e, k _ _ h fun xs q => by cases q⟩
theorem ins_put {p : Addr} {o : HO} {zs : List V} (hp : H p = some (.lst zs)) (h : InsAt K H v w x y z) : InsAt K (upd H p o) v w x y z := h.nk (nk_put hp)
end
theorem RuleAt.ins {K : PySem.W.Frag} {H : Hp} {v : V} {r : RuleD} (h : RuleAt K H v r) : ∃ wv, InsAt K H v r.w (.int r.f) (.int r.l) wv ∧ Td H wv r.d := let ⟨a, dx, wv, e, h, q⟩ := h; ⟨wv, ⟨a, dx, e, h⟩, q⟩
theorem RuleAt.of {K : PySem.W.Frag} {H : Hp} {v : V} {r : RuleD} {wv : V} (h : InsAt K H v r.w (.int r.f) (.int r.l) wv) (q : Td H wv r.d) : RuleAt K H v r := let ⟨a, dx, e, h⟩ := h; ⟨a, dx, wv, e, h, q⟩
/-! ### readings -/
/-- a method of whichever rule's class -/
def tRule (K : PySem.W.Frag) (m : Str) (sp : Wd → Sp) (ta : TE) (t : TA) : TE := fun σ H Q => ∃ w : Wd, tMeth (aC K w) m (sp w) [] E0 ta t σ H Q
theorem pe_rule {X : Cx} {e : Expr} {m : Str} {sp : Wd → Sp} {ta : TE} {t : TA} (h : ∀ w, PE X e (tMeth (aC X.K w) m (sp w) [] E0 ta t)) : PE X e (tRule X.K m sp ta t) := ⟨fun pins s σ H Q I q => let ⟨w, q⟩ := q; (h w).run pins s σ H Q I q⟩
theorem g_rule {K : PySem.W.Frag} {m : Str} {sp : Wd → Sp} {t : TA} {n : Nat} {σ : L2.St} {H : Hp} {Q : VK} {v x y z : V} {w : Wd} (h : σ[n]? = some (some v)) (i : InsAt K H v w x y z) (no : ([("first", x), ("last", y), ("worth", z)] : List (Str × V)).lookup m = none)
    (q : t σ H fun vs H2 => sp w (v :: (vs ++ [])) H2 Q E0) : tRule K m sp (tVar n) t σ H Q := by
  obtain ⟨a, dx, rfl, e⟩ := i
  exact ⟨w, _, h, a, dx, _, rfl, e, no, q⟩
theorem g_fld {K : PySem.W.Frag} {f : Str} {n : Nat} {σ : L2.St} {H : Hp} {Q : VK} {v x y z u : V} {w : Wd} (c : CFR K) (h : σ[n]? = some (some v)) (i : InsAt K H v w x y z) (m : f ∈ (["first", "last", "worth"] : List Str))
    (l : ([("first", x), ("last", y), ("worth", z)] : List (Str × V)).lookup f = some u) (q : Q u H) : tFld K (tVar n) f σ H Q := by
  obtain ⟨a, dx, rfl, e⟩ := i
  exact ⟨_, h, a, _, dx, _, u, rfl, e, CFR.cls c w, CFR.no c w m, l, q⟩
theorem g_first {K : PySem.W.Frag} {n : Nat} {σ : L2.St} {H : Hp} {Q : VK} {v x y z : V} {w : Wd} (c : CFR K) (h : σ[n]? = some (some v)) (i : InsAt K H v w x y z) (q : Q x H) : tFld K (tVar n) "first" σ H Q := g_fld c h i (by decide) rfl q
theorem g_last {K : PySem.W.Frag} {n : Nat} {σ : L2.St} {H : Hp} {Q : VK} {v x y z : V} {w : Wd} (c : CFR K) (h : σ[n]? = some (some v)) (i : InsAt K H v w x y z) (q : Q y H) : tFld K (tVar n) "last" σ H Q := g_fld c h i (by decide) rfl q
theorem g_worth {K : PySem.W.Frag} {n : Nat} {σ : L2.St} {H : Hp} {Q : VK} {v x y z : V} {w : Wd} (c : CFR K) (h : σ[n]? = some (some v)) (i : InsAt K H v w x y z) (q : Q z H) : tFld K (tVar n) "worth" σ H Q := g_fld c h i (by decide) rfl q
/-! ### isinstance -/
/-! ### promises -/
def sp_Rule_init (K : PySem.W.Frag) : Sp := Sp4 fun v x y z H Q E => CFR K ∧ ∃ (a dx : Addr) (w : Wd), v = .ref a ∧ H a = some (.ins (aC K w) dx []) ∧ Q .non (upd H a (.ins (aC K w) dx [("first", x), ("last", y), ("worth", z)]))
def rMake (C : Addr) (sp : Sp) (dvs : List V) (E : XK) (vs : List V) (H1 : Hp) (Q : VK) : Prop := ∀ x dx, H1 x = none → H1 dx = none → dx ≠ x → sp (.ref x :: (vs ++ dvs)) (upd (upd H1 dx (.own x)) x (.ins C dx [])) (fun v H2 => v = .non ∧ Q (.ref x) H2) E
theorem g_tMake {C : Addr} {sp : Sp} {dvs : List V} {E : XK} {t : TA} {σ : L2.St} {H : Hp} {Q : VK} (h : t σ H fun vs H1 => rMake C sp dvs E vs H1 Q) : tMake C sp dvs E t σ H Q := h
theorem g_mkRule {K : PySem.W.Frag} {E : XK} {H : Hp} {Q : VK} {x y z : V} (w : Wd) (c : CFR K) (q : ∀ v H', Same H H' → InsAt K H' v w x y z → Q v H') : rMake (aC K w) (sp_Rule_init K) [] E [x, y, z] H Q := by
  intro a dx ha hd hne
  have h1 : upd H dx (.own a) a = none := by rw [upd_ne hne.symm]; exact ha
  refine ⟨_, _, _, _, rfl, c, a, dx, w, rfl, upd_same, rfl, q _ _ ?_ ⟨a, dx, rfl, upd_same⟩⟩
  rw [upd_upd]
  exact (same_new hd).trans (same_new h1)
theorem g_mkPrice {K : PySem.W.Frag} {E : XK} {H : Hp} {Q : VK} {x y z : V} (c : CFR K) (q : ∀ v H', Same H H' → InsAt K H' v .price x y z → Q v H') : rMake (He.ga K "Price") (sp_Rule_init K) [] E [x, y, z] H Q := g_mkRule .price c q
theorem g_mkCome {K : PySem.W.Frag} {E : XK} {H : Hp} {Q : VK} {x y z : V} (c : CFR K) (q : ∀ v H', Same H H' → InsAt K H' v .come x y z → Q v H') : rMake (He.ga K "Come") (sp_Rule_init K) [] E [x, y, z] H Q := g_mkRule .come c q
theorem g_mkGo {K : PySem.W.Frag} {E : XK} {H : Hp} {Q : VK} {x y z : V} (c : CFR K) (q : ∀ v H', Same H H' → InsAt K H' v .go x y z → Q v H') : rMake (He.ga K "Go") (sp_Rule_init K) [] E [x, y, z] H Q := g_mkRule .go c q
theorem g_mkLeast {K : PySem.W.Frag} {E : XK} {H : Hp} {Q : VK} {x y z : V} (c : CFR K) (q : ∀ v H', Same H H' → InsAt K H' v .least x y z → Q v H') : rMake (He.ga K "Least") (sp_Rule_init K) [] E [x, y, z] H Q := g_mkRule .least c q
theorem g_mkMost {K : PySem.W.Frag} {E : XK} {H : Hp} {Q : VK} {x y z : V} (c : CFR K) (q : ∀ v H', Same H H' → InsAt K H' v .most x y z → Q v H') : rMake (He.ga K "Most") (sp_Rule_init K) [] E [x, y, z] H Q := g_mkRule .most c q
theorem g_mkDeal {K : PySem.W.Frag} {E : XK} {H : Hp} {Q : VK} {x y z : V} (c : CFR K) (q : ∀ v H', Same H H' → InsAt K H' v .deal x y z → Q v H') : rMake (He.ga K "Deal") (sp_Rule_init K) [] E [x, y, z] H Q := g_mkRule .deal c q
theorem g_mkFee {K : PySem.W.Frag} {E : XK} {H : Hp} {Q : VK} {x y z : V} (c : CFR K) (q : ∀ v H', Same H H' → InsAt K H' v .fee x y z → Q v H') : rMake (He.ga K "Fee") (sp_Rule_init K) [] E [x, y, z] H Q := g_mkRule .fee c q
def sp_word (K : PySem.W.Frag) (w : Wd) : Sp := Sp1 fun x H Q E => Q (.str w.word) H
theorem g_word {K : PySem.W.Frag} {w : Wd} {v : V} {H : Hp} {Q : VK} {E : XK} (q : Q (.str w.word) H) : sp_word K w (v :: ([] ++ [])) H Q E := ⟨v, rfl, q⟩
abbrev sp_Price_word (K : PySem.W.Frag) : Sp := sp_word K .price
abbrev sp_Come_word (K : PySem.W.Frag) : Sp := sp_word K .come
abbrev sp_Go_word (K : PySem.W.Frag) : Sp := sp_word K .go
abbrev sp_Least_word (K : PySem.W.Frag) : Sp := sp_word K .least
abbrev sp_Most_word (K : PySem.W.Frag) : Sp := sp_word K .most
abbrev sp_Deal_word (K : PySem.W.Frag) : Sp := sp_word K .deal
abbrev sp_Fee_word (K : PySem.W.Frag) : Sp := sp_word K .fee
def sp_fits (K : PySem.W.Frag) (w : Wd) : Sp := Sp1 fun v H Q E => CFR K ∧ ∃ x y z d, InsAt K H v w x y z ∧ At H [] z d ∧ Q (.bl (fitsD w d)) H
theorem g_fits {K : PySem.W.Frag} {w : Wd} {v x y z : V} {d : PyData} {H : Hp} {Q : VK} {E : XK} (c : CFR K) (i : InsAt K H v w x y z) (h : At H [] z d) (q : Q (.bl (fitsD w d)) H) : sp_fits K w (v :: ([] ++ [])) H Q E := ⟨v, rfl, c, x, y, z, d, i, h, q⟩
abbrev sp_Price_fits (K : PySem.W.Frag) : Sp := sp_fits K .price
abbrev sp_Come_fits (K : PySem.W.Frag) : Sp := sp_fits K .come
abbrev sp_Go_fits (K : PySem.W.Frag) : Sp := sp_fits K .go
abbrev sp_Least_fits (K : PySem.W.Frag) : Sp := sp_fits K .least
abbrev sp_Most_fits (K : PySem.W.Frag) : Sp := sp_fits K .most
abbrev sp_Deal_fits (K : PySem.W.Frag) : Sp := sp_fits K .deal
abbrev sp_Fee_fits (K : PySem.W.Frag) : Sp := sp_fits K .fee
/-- the rule's tuple: a new one -/
def sp_Rule_told (K : PySem.W.Frag) : Sp := Sp1 fun v H Q E => CFR K ∧ ∃ w x y z, InsAt K H v w x y z ∧ ∀ p H', Same H H' → Fr H p → H' p = some (.tup [.str w.word, x, y, z]) → Q (.ref p) H'
abbrev sp_told (K : PySem.W.Frag) (_ : Wd) : Sp := sp_Rule_told K
theorem g_told {K : PySem.W.Frag} {w u : Wd} {v x y z : V} {H : Hp} {Q : VK} {E : XK} (c : CFR K) (i : InsAt K H v w x y z) (q : ∀ p H', Same H H' → Fr H p → H' p = some (.tup [.str w.word, x, y, z]) → Q (.ref p) H') : sp_told K u (v :: ([] ++ [])) H Q E := ⟨v, rfl, c, w, x, y, z, i, q⟩
def sp_Rule_tells (K : PySem.W.Frag) : Sp := Sp2 fun v u H Q E => CFR K ∧ ∃ w f l z d, InsAt K H v w (.int f) (.int l) z ∧ u = .int d ∧ Q (.bl (decide (f ≤ d) && decide (d ≤ l))) H
abbrev sp_tells (K : PySem.W.Frag) (_ : Wd) : Sp := sp_Rule_tells K
theorem g_tells {K : PySem.W.Frag} {w u : Wd} {v z : V} {f l d : Int} {H : Hp} {Q : VK} {E : XK} (c : CFR K) (i : InsAt K H v w (.int f) (.int l) z) (q : Q (.bl (decide (f ≤ d) && decide (d ≤ l))) H) : sp_tells K u (v :: ([.int d] ++ [])) H Q E := ⟨v, _, rfl, c, w, f, l, z, d, i, rfl, q⟩
def sp_made (K : PySem.W.Frag) : Sp := Sp4 fun u x y z H Q E => CFR K ∧ ∃ w : Wd, u = .str w.word ∧ ∀ v H', Same H H' → InsAt K H' v w x y z → Q v H'
theorem g_made {K : PySem.W.Frag} {w : Wd} {x y z : V} {H : Hp} {Q : VK} {E : XK} (c : CFR K) (q : ∀ v H', Same H H' → InsAt K H' v w x y z → Q v H') : sp_made K ([.str w.word, x, y, z] ++ []) H Q E := ⟨_, _, _, _, rfl, c, w, rfl, q⟩
def wordOf (z : Str) : Option Wd := [Wd.price, .come, .go, .least, .most, .deal, .fee].find? fun w => decide (w.word = z)
/-- the rule that data tell -/
def asRule : PyData → Option RuleD
  | .tuple [.str z, .int f, .int l, d] => match wordOf z with
    | some w => if (isStr (.tuple [.int f, .int l]) && fitsD w d) = true then some ⟨w, f, l, d⟩ else none
    | none => none
  | _ => none
def sp_rule_of (K : PySem.W.Frag) : Sp := Sp1 fun x H Q E => CFR K ∧ ∃ d, At H [] x d ∧ (asRule d = none → ∀ H', Same H H' → Q .non H') ∧ ∀ r, asRule d = some r → ∀ v H', Same H H' → RuleAt K H' v r → Q v H'
theorem g_rule_of {K : PySem.W.Frag} {x : V} {d : PyData} {H : Hp} {Q : VK} {E : XK} (c : CFR K) (h : At H [] x d) (q1 : asRule d = none → ∀ H', Same H H' → Q .non H') (q2 : ∀ r, asRule d = some r → ∀ v H', Same H H' → RuleAt K H' v r → Q v H') : sp_rule_of K ([x] ++ []) H Q E := ⟨x, rfl, c, d, h, q1, q2⟩
theorem wordOf_word (w : Wd) : wordOf w.word = some w := by cases w <;> decide
theorem asRule_told {r : RuleD} (h : r.good) : asRule r.told = some r := by
  obtain ⟨h1, h2, h3, h4⟩ := h
  unfold asRule RuleD.told
  simp only [wordOf_word]
  rw [if_pos]
  rw [h4, Bool.and_true]
  show (isDay (.int r.f) && (isDay (.int r.l) && decide (r.f ≤ r.l))) = true
  unfold isDay
  simp
  omega
/-- a rule's tuple -/
def RuT (H : Hp) (v : V) (r : RuleD) : Prop := ∃ p wv, v = .ref p ∧ H p = some (.tup [.str r.w.word, .int r.f, .int r.l, wv]) ∧ Td H wv r.d
theorem RuT.tk {H H' : Hp} {v : V} {r : RuleD} (k : Tk H H') (h : RuT H v r) : RuT H' v r := let ⟨p, wv, e, h, q⟩ := h; ⟨p, wv, e, k _ _ h, q.tk k⟩
theorem RuT.td {H : Hp} {v : V} {r : RuleD} (h : RuT H v r) : Td H v r.told := by
  obtain ⟨p, wv, rfl, h, q⟩ := h
  exact .tup h (.cons (.str _) (.cons (.int _) (.cons (.int _) (.cons q .nil))))
/-! YI: the rules' defs keep what they promise. -/
open PySem PySem.Spec PyProof.Rows L2
theorem isDeal_no {ds : List PyData} (h : ds.length ≠ 2) : isDeal (.tuple ds) = false := by
  match ds, h with
  | [], _ => rfl
  | [_], _ => rfl
  | [_, _], h => exact absurd rfl h
  | _ :: b :: _ :: _, _ => cases b <;> rfl
theorem isDeal_n {a b : PyData} (h : isNights a = false) : isDeal (.tuple [a, b]) = false := by
  cases b <;> first | rfl | (show (isNights a && _) = false; rw [h]; rfl)
theorem isDeal_w {a b : PyData} (h : isW b = false) : isDeal (.tuple [a, b]) = false := by
  cases b <;> first | rfl | cases h
theorem isNights_int {d : PyData} (h : isNights d = true) : ∃ i, d = .int i := by
  cases d with
  | int i => exact ⟨i, rfl⟩
  | _ => cases h
theorem isW_int {d : PyData} (h : isW d = true) : ∃ i, d = .int i := by
  cases d with
  | int i => exact ⟨i, rfl⟩
  | _ => cases h
theorem ats2' {H : Hp} {L : List Addr} {xs : List V} {ds : List PyData} (r : Ats H L xs ds) (h : xs.length = 2) : ∃ x y a b, xs = [x, y] ∧ ds = [a, b] ∧ At H L x a ∧ At H L y b := by
  match xs, ds, r, h with
  | [x, y], [a, b], .cons h1 (.cons h2 .nil), _ => exact ⟨x, y, a, b, rfl, rfl, h1, h2⟩
theorem ats4 {H : Hp} {L : List Addr} {xs : List V} {ds : List PyData} (r : Ats H L xs ds) (h : xs.length = 4) : ∃ x y z u a b c d, xs = [x, y, z, u] ∧ ds = [a, b, c, d] ∧ At H L x a ∧ At H L y b ∧ At H L z c ∧ At H L u d := by
  match xs, ds, r, h with
  | [x, y, z, u], [a, b, c, d], .cons h1 (.cons h2 (.cons h3 (.cons h4 .nil))), _ => exact ⟨x, y, z, u, a, b, c, d, rfl, rfl, h1, h2, h3, h4⟩
theorem asRule_no {ds : List PyData} (h : ds.length ≠ 4) : asRule (.tuple ds) = none := by
  unfold asRule
  split
  · rename_i e
    injection e with e
    subst e
    exact absurd rfl h
  · rfl
theorem asRule_w {z : Str} {b c d : PyData} (h : wordOf z = none) : asRule (.tuple [.str z, b, c, d]) = none := by
  unfold asRule
  split
  · rename_i z' f l d' e
    injection e with e
    injection e with e1 e
    injection e1 with e1
    subst e1
    rw [h]
  · rfl
theorem asRule_s {z : Str} {b c d : PyData} (h : isStr (.tuple [b, c]) = false) : asRule (.tuple [.str z, b, c, d]) = none := by
  unfold asRule
  split
  · rename_i z' f l d' e
    injection e with e
    injection e with e1 e
    injection e with e2 e
    injection e with e3 e
    subst e2 e3
    split
    · rw [h, Bool.false_and, if_neg Bool.false_ne_true]
    · rfl
  · rfl
theorem isStr_int {b c : PyData} (h : isStr (.tuple [b, c]) = true) : ∃ f l, b = .int f ∧ c = .int l := by
  unfold isStr at h
  split at h
  · rename_i f l e
    injection e with e
    injection e with e1 e
    injection e with e2 e
    exact ⟨f, l, e1, e2⟩
  · cases h
theorem any_find {α : Type} (p : α → Bool) : ∀ l : List α, l.any p = (l.find? p).isSome
  | [] => rfl
  | a :: l => by
    rw [List.any_cons, List.find?_cons, any_find p l]
    cases p a <;> simp
theorem inV_words (z : Str) : inV (.str z) (wordsL.map V.str) = (wordOf z).isSome := by
  have e : wordsL = [Wd.price, .come, .go, .least, .most, .deal, .fee].map Wd.word := rfl
  unfold inV wordOf
  rw [e, List.map_map, List.any_map, ← any_find]
  congr 1
theorem wordOf_some {z : Str} {w : Wd} (h : wordOf z = some w) : z = w.word := by
  have := List.find?_some h
  exact (of_decide_eq_true this).symm
theorem td_of_fits {H : Hp} {v : V} {w : Wd} {d : PyData} (h : At H [] v d) (k : fitsD w d = true) : Td H v d := by
  cases h with
  | non => exact .non
  | bl b => exact .bl b
  | int i => exact .int i
  | str z => exact .str z
  | lst n h r => cases w <;> cases k
  | @tup a xs ds n h r =>
    have hd : isDeal (.tuple ds) = true := by cases w <;> first | exact k | cases k
    by_cases hl : ds.length = 2
    · obtain ⟨x, y, p, q, rfl, rfl, hx, hy⟩ := ats2' r (by rw [Ats.len r]; exact hl)
      have hp : isNights p = true := by
        cases e : isNights p with
        | true => rfl
        | false => rw [isDeal_n e] at hd; cases hd
      have hq : isW q = true := by
        cases e : isW q with
        | true => rfl
        | false => rw [isDeal_w e] at hd; cases hd
      obtain ⟨i, rfl⟩ := isNights_int hp
      obtain ⟨j, rfl⟩ := isW_int hq
      cases hx
      cases hy
      exact .tup h (.cons (.int i) (.cons (.int j) .nil))
    · rw [isDeal_no hl] at hd; cases hd
def t_Rule_init (K : PySem.W.Frag) : TS :=
  (tSeq (sFld K (tVar 0) (tVar 1) "first")
  (tSeq (sFld K (tVar 0) (tVar 2) "last")
  (sFld K (tVar 0) (tVar 3) "worth")))
theorem pure_Rule_init {K : PySem.W.Frag} {v x y z : V} {H : Hp} {Q : VK} {E : XK} (h : sp_Rule_init K [v, x, y, z] H Q E) : t_Rule_init K { nx := fun _ H' => Q .non H', rt := Q } [some v, some x, some y, some z] H := by
  obtain ⟨v, x, y, z, e, c, a, dx, w, rfl, h, q⟩ := h
  cases e
  have n1 := CFR.no c w (f := "first") (by decide)
  have n2 := CFR.no c w (f := "last") (by decide)
  have n3 := CFR.no c w (f := "worth") (by decide)
  refine ⟨x, rfl, _, rfl, a, _, dx, _, rfl, h, CFR.cls c w, n1, (show (0 : Nat) < 1000 by decide), y, rfl, _, rfl, a, _, dx, _, rfl, upd_same, CFR.cls c w, n2, (show (1 : Nat) < 1000 by decide), z, rfl, _, rfl, a, _, dx, _, rfl, upd_same, CFR.cls c w, n3, (show (2 : Nat) < 1000 by decide), ?_⟩
  rw [upd_upd, upd_upd]
  exact q
def t_Rule_told (K : PySem.W.Frag) : TS :=
  (tRet (tTup (tCons (tRule K "word" (sp_word K) (tVar 0) tNil) (tCons (tFld K (tVar 0) "first") (tCons (tFld K (tVar 0) "last") (tCons (tFld K (tVar 0) "worth") tNil))))))
theorem pure_Rule_told {K : PySem.W.Frag} {v : V} {H : Hp} {Q : VK} {E : XK} (h : sp_Rule_told K [v] H Q E) : t_Rule_told K { nx := fun _ H' => Q .non H', rt := Q } [some v] H := by
  obtain ⟨v, e, c, w, x, y, z, i, q⟩ := h
  cases e
  unfold t_Rule_told
  walk_at "ss"
  rename_i p hp
  exact q p _ (same_new hp) hp upd_same
def t_Rule_tells (K : PySem.W.Frag) : TS :=
  (tRet (tChain rLe rLe (tFld K (tVar 0) "first") (tVar 1) (tFld K (tVar 0) "last")))
theorem pure_Rule_tells {K : PySem.W.Frag} {v u : V} {H : Hp} {Q : VK} {E : XK} (h : sp_Rule_tells K [v, u] H Q E) : t_Rule_tells K { nx := fun _ H' => Q .non H', rt := Q } [some v, some u] H := by
  obtain ⟨v, u, e, c, w, f, l, z, d, i, rfl, q⟩ := h
  cases e
  unfold t_Rule_tells
  walk_at "ss"
  refine ite_b (fun h1 => ?_) fun h1 => ?_
  · walk_at "ss"
    exact and_t h1 q
  · exact and_f h1 q
def t_Price_word (K : PySem.W.Frag) : TS :=
  (tRet (tC (.str "price")))
theorem pure_Price_word {K : PySem.W.Frag} {v : V} {H : Hp} {Q : VK} {E : XK} (h : sp_Price_word K [v] H Q E) : t_Price_word K { nx := fun _ H' => Q .non H', rt := Q } [some v] H := by
  obtain ⟨v, e, q⟩ := h
  cases e
  exact q
def t_Come_word (K : PySem.W.Frag) : TS :=
  (tRet (tC (.str "come")))
theorem pure_Come_word {K : PySem.W.Frag} {v : V} {H : Hp} {Q : VK} {E : XK} (h : sp_Come_word K [v] H Q E) : t_Come_word K { nx := fun _ H' => Q .non H', rt := Q } [some v] H := by
  obtain ⟨v, e, q⟩ := h
  cases e
  exact q
def t_Go_word (K : PySem.W.Frag) : TS :=
  (tRet (tC (.str "go")))
theorem pure_Go_word {K : PySem.W.Frag} {v : V} {H : Hp} {Q : VK} {E : XK} (h : sp_Go_word K [v] H Q E) : t_Go_word K { nx := fun _ H' => Q .non H', rt := Q } [some v] H := by
  obtain ⟨v, e, q⟩ := h
  cases e
  exact q
def t_Least_word (K : PySem.W.Frag) : TS :=
  (tRet (tC (.str "least")))
theorem pure_Least_word {K : PySem.W.Frag} {v : V} {H : Hp} {Q : VK} {E : XK} (h : sp_Least_word K [v] H Q E) : t_Least_word K { nx := fun _ H' => Q .non H', rt := Q } [some v] H := by
  obtain ⟨v, e, q⟩ := h
  cases e
  exact q
def t_Most_word (K : PySem.W.Frag) : TS :=
  (tRet (tC (.str "most")))
theorem pure_Most_word {K : PySem.W.Frag} {v : V} {H : Hp} {Q : VK} {E : XK} (h : sp_Most_word K [v] H Q E) : t_Most_word K { nx := fun _ H' => Q .non H', rt := Q } [some v] H := by
  obtain ⟨v, e, q⟩ := h
  cases e
  exact q
def t_Deal_word (K : PySem.W.Frag) : TS :=
  (tRet (tC (.str "deal")))
theorem pure_Deal_word {K : PySem.W.Frag} {v : V} {H : Hp} {Q : VK} {E : XK} (h : sp_Deal_word K [v] H Q E) : t_Deal_word K { nx := fun _ H' => Q .non H', rt := Q } [some v] H := by
  obtain ⟨v, e, q⟩ := h
  cases e
  exact q
def t_Fee_word (K : PySem.W.Frag) : TS :=
  (tRet (tC (.str "fee")))
theorem pure_Fee_word {K : PySem.W.Frag} {v : V} {H : Hp} {Q : VK} {E : XK} (h : sp_Fee_word K [v] H Q E) : t_Fee_word K { nx := fun _ H' => Q .non H', rt := Q } [some v] H := by
  obtain ⟨v, e, q⟩ := h
  cases e
  exact q
def t_Price_fits (K : PySem.W.Frag) : TS :=
  (tRet (tOrV (tOp rIsN (tFld K (tVar 0) "worth") (tC .non)) (tCall (sp_is_coins K) [] E0 (tCons (tFld K (tVar 0) "worth") tNil))))
theorem pure_Price_fits {K : PySem.W.Frag} {v : V} {H : Hp} {Q : VK} {E : XK} (h : sp_Price_fits K [v] H Q E) : t_Price_fits K { nx := fun _ H' => Q .non H', rt := Q } [some v] H := by
  obtain ⟨v, e, c, x, y, z, d, i, h, q⟩ := h
  cases e
  unfold t_Price_fits
  walk_at "ss"
  cases h with
  | non =>
    refine ite_t rfl ?_
    exact q
  | _ =>
    refine ite_f rfl ?_
    walk_at "ss"
    exact q
def t_Come_fits (K : PySem.W.Frag) : TS :=
  (tRet (tCB (rIsi K) (tCons (tFld K (tVar 0) "worth") (tCons (tC (.ty "bool")) tNil))))
theorem pure_Come_fits {K : PySem.W.Frag} {v : V} {H : Hp} {Q : VK} {E : XK} (h : sp_Come_fits K [v] H Q E) : t_Come_fits K { nx := fun _ H' => Q .non H', rt := Q } [some v] H := by
  obtain ⟨v, e, c, x, y, z, d, i, h, q⟩ := h
  cases e
  unfold t_Come_fits
  walk_at "ss"
  cases h <;> (walk_at "ss"; exact q)
def t_Go_fits (K : PySem.W.Frag) : TS :=
  (tRet (tCB (rIsi K) (tCons (tFld K (tVar 0) "worth") (tCons (tC (.ty "bool")) tNil))))
theorem pure_Go_fits {K : PySem.W.Frag} {v : V} {H : Hp} {Q : VK} {E : XK} (h : sp_Go_fits K [v] H Q E) : t_Go_fits K { nx := fun _ H' => Q .non H', rt := Q } [some v] H := by
  obtain ⟨v, e, c, x, y, z, d, i, h, q⟩ := h
  cases e
  unfold t_Go_fits
  walk_at "ss"
  cases h <;> (walk_at "ss"; exact q)
def t_Least_fits (K : PySem.W.Frag) : TS :=
  (tRet (tCall (sp_is_nights K) [] E0 (tCons (tFld K (tVar 0) "worth") tNil)))
theorem pure_Least_fits {K : PySem.W.Frag} {v : V} {H : Hp} {Q : VK} {E : XK} (h : sp_Least_fits K [v] H Q E) : t_Least_fits K { nx := fun _ H' => Q .non H', rt := Q } [some v] H := by
  obtain ⟨v, e, c, x, y, z, d, i, h, q⟩ := h
  cases e
  unfold t_Least_fits
  walk_at "ss"
  exact q
def t_Most_fits (K : PySem.W.Frag) : TS :=
  (tRet (tCall (sp_is_nights K) [] E0 (tCons (tFld K (tVar 0) "worth") tNil)))
theorem pure_Most_fits {K : PySem.W.Frag} {v : V} {H : Hp} {Q : VK} {E : XK} (h : sp_Most_fits K [v] H Q E) : t_Most_fits K { nx := fun _ H' => Q .non H', rt := Q } [some v] H := by
  obtain ⟨v, e, c, x, y, z, d, i, h, q⟩ := h
  cases e
  unfold t_Most_fits
  walk_at "ss"
  exact q
def t_Deal_fits (K : PySem.W.Frag) : TS :=
  (tSeq (tIfS (tTest (tOp rIsN (tFld K (tVar 0) "worth") (tC .non)))
  (tRet (tC (.bl true)))
  tNext)
  (tSeq (tIfS (tOr (tNot (tB (tCB (rIsi K) (tCons (tFld K (tVar 0) "worth") (tCons (tC (.ty "tuple")) tNil))))) (tTest (tOp rNe (tCB (rLenA K) (tCons (tFld K (tVar 0) "worth") tNil)) (tC (.int 2)))))
  (tRet (tC (.bl false)))
  tNext)
  (tSeq (tAsg (tFld K (tVar 0) "worth") (gTup K 2 (gCons (gName 1) (gCons (gName 2) gNil))))
  (tRet (tAndV (tCall (sp_is_nights K) [] E0 (tCons (tVar 1) tNil)) (tAndV (tCall (sp_is_whole K) [] E0 (tCons (tVar 2) tNil)) (tChain rLe rLt (tC (.int 1)) (tVar 2) (tVar 1))))))))
theorem pure_Deal_fits {K : PySem.W.Frag} {v : V} {H : Hp} {Q : VK} {E : XK} (h : sp_Deal_fits K [v] H Q E) : t_Deal_fits K { nx := fun _ H' => Q .non H', rt := Q } [some v, none, none] H := by
  obtain ⟨v, e, c, x, y, z, d, i, h, q⟩ := h
  cases e
  unfold t_Deal_fits
  walk_at "ss"
  cases h with
  | non =>
    refine ite_t rfl ?_
    exact q
  | tup n h r =>
    refine ite_f rfl ?_
    walk_at "ss"
    refine g_lenA (.inr ⟨_, SqT.of h, rfl⟩) ?_
    walk_at "ss"
    refine ite_nd (fun h1 => ?_) fun h1 => ?_
    · have hl := V.int.inj h1
      obtain ⟨x', y', a, b, rfl, rfl, hx, hy⟩ := ats2' r (by omega)
      walk_at "ss"
      refine ite_b (fun h2 => ?_) fun h2 => ?_
      · walk_at "ss"
        refine ite_b (fun h3 => ?_) fun h3 => ?_
        · obtain ⟨m, rfl⟩ := isNights_int h2
          obtain ⟨f, rfl⟩ := isW_int h3
          cases hx
          cases hy
          have q' : Q (.bl (isNights (.int m) && (decide (1 ≤ f) && decide (f < m)))) H := q
          rw [h2, Bool.true_and] at q'
          walk_at "ss"
          refine ite_b (fun h4 => ?_) fun h4 => ?_
          · walk_at "ss"
            exact and_t h4 q'
          · exact and_f h4 q'
        · have e : fitsD .deal (.tuple [a, b]) = false := isDeal_w h3
          rw [e] at q
          exact q
      · have e : fitsD .deal (.tuple [a, b]) = false := isDeal_n h2
        rw [e] at q
        exact q
    · have e : fitsD .deal (.tuple _) = false := isDeal_no (ds := _) fun z => h1 (by rw [Ats.len r, z]; rfl)
      rw [e] at q
      walk_at "ss"
      exact q
  | _ =>
    refine ite_f rfl ?_
    walk_at "ss"
    exact q
def t_Fee_fits (K : PySem.W.Frag) : TS :=
  (tRet (tCall (sp_is_coins K) [] E0 (tCons (tFld K (tVar 0) "worth") tNil)))
theorem pure_Fee_fits {K : PySem.W.Frag} {v : V} {H : Hp} {Q : VK} {E : XK} (h : sp_Fee_fits K [v] H Q E) : t_Fee_fits K { nx := fun _ H' => Q .non H', rt := Q } [some v] H := by
  obtain ⟨v, e, c, x, y, z, d, i, h, q⟩ := h
  cases e
  unfold t_Fee_fits
  walk_at "ss"
  exact q
def t_made (K : PySem.W.Frag) : TS :=
  (tSeq (tIfS (tTest (tOp rEq (tVar 0) (tC (.str "price"))))
  (tRet (tMake (He.ga K "Price") (sp_Rule_init K) [] E0 (tCons (tVar 1) (tCons (tVar 2) (tCons (tVar 3) tNil)))))
  tNext)
  (tSeq (tIfS (tTest (tOp rEq (tVar 0) (tC (.str "come"))))
  (tRet (tMake (He.ga K "Come") (sp_Rule_init K) [] E0 (tCons (tVar 1) (tCons (tVar 2) (tCons (tVar 3) tNil)))))
  tNext)
  (tSeq (tIfS (tTest (tOp rEq (tVar 0) (tC (.str "go"))))
  (tRet (tMake (He.ga K "Go") (sp_Rule_init K) [] E0 (tCons (tVar 1) (tCons (tVar 2) (tCons (tVar 3) tNil)))))
  tNext)
  (tSeq (tIfS (tTest (tOp rEq (tVar 0) (tC (.str "least"))))
  (tRet (tMake (He.ga K "Least") (sp_Rule_init K) [] E0 (tCons (tVar 1) (tCons (tVar 2) (tCons (tVar 3) tNil)))))
  tNext)
  (tSeq (tIfS (tTest (tOp rEq (tVar 0) (tC (.str "most"))))
  (tRet (tMake (He.ga K "Most") (sp_Rule_init K) [] E0 (tCons (tVar 1) (tCons (tVar 2) (tCons (tVar 3) tNil)))))
  tNext)
  (tSeq (tIfS (tTest (tOp rEq (tVar 0) (tC (.str "deal"))))
  (tRet (tMake (He.ga K "Deal") (sp_Rule_init K) [] E0 (tCons (tVar 1) (tCons (tVar 2) (tCons (tVar 3) tNil)))))
  tNext)
  (tRet (tMake (He.ga K "Fee") (sp_Rule_init K) [] E0 (tCons (tVar 1) (tCons (tVar 2) (tCons (tVar 3) tNil)))))))))))
theorem pure_made {K : PySem.W.Frag} {u x y z : V} {H : Hp} {Q : VK} {E : XK} (h : sp_made K [u, x, y, z] H Q E) : t_made K { nx := fun _ H' => Q .non H', rt := Q } [some u, some x, some y, some z] H := by
  obtain ⟨u, x, y, z, e, c, w, rfl, q⟩ := h
  cases e
  unfold t_made
  cases w <;> (walk_at "ss"; repeat (first | (refine ite_dt rfl ?_; walk_at "ss") | (refine ite_df (by decide) ?_; walk_at "ss"))) <;> exact q _ _ (by assumption) (by assumption)
def t_rule_of (K : PySem.W.Frag) : TS :=
  (tSeq (tIfS (tOr (tNot (tB (tCB (rIsi K) (tCons (tVar 0) (tCons (tC (.ty "tuple")) tNil))))) (tOr (tTest (tOp rNe (tCB (rLen K) (tCons (tVar 0) tNil)) (tC (.int 4)))) (tOr (tNot (tB (tCB (rIsi K) (tCons (tOp (rIxT K) (tVar 0) (tC (.int 0))) (tCons (tC (.ty "str")) tNil))))) (tTest (tOp (rIn K true) (tOp (rIxT K) (tVar 0) (tC (.int 0))) (tC (.ref (He.ga K "WORDS"))))))))
  (tRet (tC .non))
  tNext)
  (tSeq (tIfS (tNot (tB (tCall (sp_is_stretch K) [] E0 (tCons (tTup (tCons (tOp (rIxT K) (tVar 0) (tC (.int 1))) (tCons (tOp (rIxT K) (tVar 0) (tC (.int 2))) tNil))) tNil))))
  (tRet (tC .non))
  tNext)
  (tSeq (tAsg (tCall (sp_made K) [] E0 (tCons (tOp (rIxT K) (tVar 0) (tC (.int 0))) (tCons (tOp (rIxT K) (tVar 0) (tC (.int 1))) (tCons (tOp (rIxT K) (tVar 0) (tC (.int 2))) (tCons (tOp (rIxT K) (tVar 0) (tC (.int 3))) tNil))))) (gName 1))
  (tSeq (tIfS (tNot (tB (tRule K "fits" (sp_fits K) (tVar 1) tNil)))
  (tRet (tC .non))
  tNext)
  (tRet (tVar 1))))))
theorem pure_rule_of {K : PySem.W.Frag} {x : V} {H : Hp} {Q : VK} {E : XK} (h : sp_rule_of K [x] H Q E) : t_rule_of K { nx := fun _ H' => Q .non H', rt := Q } [some x, none] H := by
  obtain ⟨x, e, c, d, h, q1, q2⟩ := h
  cases e
  unfold t_rule_of
  cases h with
  | tup n h r =>
    walk_at "ss"
    refine ite_nd (fun h1 => ?_) fun h1 => ?_
    · have hl := V.int.inj h1
      obtain ⟨x0, x1, x2, x3, a0, a1, a2, a3, rfl, rfl, k0, k1, k2, k3⟩ := ats4 r (by omega)
      cases k0 with
      | str z =>
        walk_at "ss"
        refine ⟨_, _, rfl, .inr (CFR.words c _), rfl, by decide, ?_⟩
        rw [inV_words]
        walk_at "ss"
        cases ew : wordOf z with
        | none =>
          refine ite_t rfl ?_
          walk_at "ss"
          exact q1 (asRule_w ew) _ (Same.refl _)
        | some w =>
          obtain rfl := wordOf_some ew
          refine ite_f rfl ?_
          walk_at "ss"
          rename_i p hp
          refine ite_b (fun h4 => ?_) fun h4 => ?_
          · walk_at "ss"
            exact q1 (asRule_s (by simpa using h4)) _ (same_new hp)
          · have h5 : isStr (.tuple [a1, a2]) = true := by simpa using h4
            obtain ⟨f, l, rfl, rfl⟩ := isStr_int h5
            cases k1
            cases k2
            walk_at "ss"
            refine g_made c fun v H' hs hi => ?_
            walk_at "ss"
            have eR : asRule (.tuple [.str w.word, .int f, .int l, a3]) = if (isStr (.tuple [.int f, .int l]) && fitsD w a3) = true then some ⟨w, f, l, a3⟩ else none := by
              unfold asRule
              simp only [ew]
            rw [h5, Bool.true_and] at eR
            refine ite_b (fun h6 => ?_) fun h6 => ?_
            · walk_at "ss"
              refine q1 ?_ _ (by walk_at "sm")
              rw [eR, if_neg (by simpa using h6)]
            · walk_at "ss"
              have h7 : fitsD w a3 = true := by simpa using h6
              refine q2 ⟨w, f, l, a3⟩ ?_ v _ (by walk_at "sm") (RuleAt.of hi (td_of_fits (by walk_at "ad") h7))
              rw [eR, if_pos h7]
      | _ =>
        walk_at "ss"
        exact q1 rfl _ (Same.refl _)
    · walk_at "ss"
      exact q1 (asRule_no fun z => h1 (by rw [Ats.len r, z]; rfl)) _ (Same.refl _)
  | _ =>
    walk_at "ss"
    exact q1 rfl _ (Same.refl _)
/-! YQ: books in the heap. -/
open PySem PySem.Spec PyProof.Rows L2
/-- what is told of the class of books -/
def CFB (K : PySem.W.Frag) : Prop := exBook K = true
theorem CFB.cls {K : PySem.W.Frag} (c : CFB K) : Cls K (He.ga K "Book") := He.cls_ok (He.ba c).1
theorem CFB.no {K : PySem.W.Frag} (c : CFB K) {f : Str} (h : f ∈ (["kept", "newest"] : List Str)) : NoAttr K (He.ga K "Book") f := He.noat_ok (List.all_eq_true.mp (He.ba (He.ba c).2).1 f h)
/-- objects and tuples stay -/
structure Ik (H H' : Hp) : Prop where
  ins : ∀ a C dx fs, H a = some (.ins C dx fs) → H' a = some (.ins C dx fs)
  tup : Tk H H'
theorem Ik.trans {H H1 H2 : Hp} (a : Ik H H1) (b : Ik H1 H2) : Ik H H2 := ⟨fun x C dx fs h => b.ins x C dx fs (a.ins x C dx fs h), a.tup.trans b.tup⟩
theorem Same.ik {H H' : Hp} (e : Same H H') : Ik H H' := ⟨fun a C dx fs h => e _ _ h, Same.tk e⟩
theorem Nk.ik {H H' : Hp} (k : Nk H H') : Ik H H' := ⟨fun a C dx fs h => k _ _ h (fun xs e => by cases e), k.tk⟩
theorem ik_dic {H : Hp} {p : Addr} {o : HO} {kvs : List (Key × V)} (h : H p = some (.dK kvs)) : Ik H (upd H p o) :=
  ⟨fun a C dx fs e => at_ne (fun z => by rw [z, h] at e; cases e) e, fun a xs e => at_ne (fun z => by rw [z, h] at e; cases e) e⟩
theorem RuleAt.ik {K : PySem.W.Frag} {H H' : Hp} {v : V} {r : RuleD} (k : Ik H H') (h : RuleAt K H v r) : RuleAt K H' v r := let ⟨a, dx, wv, e, h, q⟩ := h; ⟨a, dx, wv, e, k.ins _ _ _ _ h, q.tk k.tup⟩
abbrev RulesAt (K : PySem.W.Frag) (H : Hp) : List V → List RuleD → Prop := Paired (RuleAt K H)
theorem RulesAt.ik {K : PySem.W.Frag} {H H' : Hp} {xs : List V} {rs : List RuleD} (k : Ik H H') (h : RulesAt K H xs rs) : RulesAt K H' xs rs := Paired.mapP h fun _ _ q => q.ik k
/-- the rules of a word, the newest first -/
def newestOf (rs : List RuleD) (w : Wd) : List RuleD := (rs.filter fun r => decide (r.w = w)).reverse
theorem newest_snoc (rs : List RuleD) (r : RuleD) (w : Wd) : newestOf (rs ++ [r]) w = if r.w = w then r :: newestOf rs w else newestOf rs w := by
  unfold newestOf
  rw [List.filter_append, List.reverse_append]
  by_cases h : r.w = w <;> simp [h]
/-- a book's parts -/
structure BookIn (K : PySem.W.Frag) (H : Hp) (a dx lk nd : Addr) (kvs : List (Key × V)) (nw : Wd → Option Addr) (rs : List RuleD) : Prop where
  obj : H a = some (.ins (He.ga K "Book") dx [("kept", .ref lk), ("newest", .ref nd)])
  kept : ∃ ks, H lk = some (.lst ks) ∧ RulesAt K H ks rs
  dic : H nd = some (.dK kvs)
  small : kvs.length ≤ rs.length
  key : ∀ w : Wd, valV kvs (.inr w.word) = (nw w).map V.ref
  here : ∀ w l, nw w = some l → ∃ xs, H l = some (.lst xs) ∧ RulesAt K H xs (newestOf rs w)
  none' : ∀ w, nw w = none → newestOf rs w = []
  inj : ∀ w w' l, nw w = some l → nw w' = some l → w = w'
  ne : ∀ w l, nw w = some l → l ≠ lk
theorem Wd.word_inj {w v : Wd} (h : w.word = v.word) : w = v := by
  have h1 := wordOf_word w
  rw [h, wordOf_word] at h1
  exact (Option.some.inj h1).symm
/-- one more rule -/
theorem BookIn.step {K : PySem.W.Frag} {H H' : Hp} {a dx lk nd l : Addr} {kvs kvs' : List (Key × V)} {nw : Wd → Option Addr} {rs : List RuleD} {r : RuleD} {v : V} {ks xs : List V} (B : BookIn K H a dx lk nd kvs nw rs) (hv : RuleAt K H' v r) (ik : Ik H H')
    (hk : H lk = some (.lst ks)) (hk' : H' lk = some (.lst (ks ++ [v]))) (dic : H' nd = some (.dK kvs')) (small : kvs'.length ≤ rs.length + 1)
    (key : ∀ w : Wd, valV kvs' (.inr w.word) = if w = r.w then some (.ref l) else valV kvs (.inr w.word))
    (hl' : H' l = some (.lst (v :: xs))) (hl : (nw r.w = some l ∧ H l = some (.lst xs)) ∨ (nw r.w = none ∧ xs = [] ∧ l ≠ lk ∧ ∀ w, nw w ≠ some l))
    (oth : ∀ w p, w ≠ r.w → nw w = some p → ∀ ys, H p = some (.lst ys) → H' p = some (.lst ys)) :
    BookIn K H' a dx lk nd kvs' (fun w => if w = r.w then some l else nw w) (rs ++ [r]) := by
  obtain ⟨ks0, hk0, hks⟩ := B.kept
  obtain rfl : ks0 = ks := by rw [hk] at hk0; cases hk0; rfl
  have hxs : RulesAt K H' xs (newestOf rs r.w) := by
    rcases hl with ⟨h1, h2⟩ | ⟨h1, h2, -⟩
    · obtain ⟨ys, h3, h4⟩ := B.here _ _ h1
      rw [h2] at h3
      cases h3
      exact h4.ik ik
    · rw [h2, B.none' _ h1]
      exact .nil
  have lne : l ≠ lk := by
    rcases hl with ⟨h1, -⟩ | ⟨-, -, h3, -⟩
    · exact B.ne _ _ h1
    · exact h3
  have lother : ∀ w, w ≠ r.w → nw w ≠ some l := fun w hw e => by
    rcases hl with ⟨h1, -⟩ | ⟨-, -, -, h4⟩
    · exact hw (B.inj _ _ _ e h1)
    · exact h4 w e
  refine ⟨ik.ins _ _ _ _ B.obj, ⟨_, hk', Paired.snoc (hks.ik ik) hv⟩, dic, by rw [List.length_append]; exact small, fun w => ?_, fun w p hp => ?_, fun w hw => ?_, fun w w' p h1 h2 => ?_, fun w p hp => ?_⟩
  · rw [key]
    by_cases h : w = r.w
    · rw [if_pos h, if_pos h]; rfl
    · rw [if_neg h, if_neg h, B.key]
  · by_cases h : w = r.w
    · rw [if_pos h] at hp
      cases hp
      subst h
      refine ⟨_, hl', ?_⟩
      rw [newest_snoc, if_pos rfl]
      exact .cons hv hxs
    · rw [if_neg h] at hp
      obtain ⟨ys, h3, h4⟩ := B.here _ _ hp
      refine ⟨ys, oth w p h hp ys h3, ?_⟩
      rw [newest_snoc, if_neg (Ne.symm h)]
      exact h4.ik ik
  · by_cases h : w = r.w
    · rw [if_pos h] at hw; cases hw
    · rw [if_neg h] at hw
      rw [newest_snoc, if_neg (Ne.symm h)]
      exact B.none' _ hw
  · by_cases e1 : w = r.w
    · by_cases e2 : w' = r.w
      · rw [e1, e2]
      · rw [if_pos e1] at h1
        rw [if_neg e2] at h2
        cases h1
        exact absurd h2 (lother _ e2)
    · rw [if_neg e1] at h1
      by_cases e2 : w' = r.w
      · rw [if_pos e2] at h2
        cases h2
        exact absurd h1 (lother _ e1)
      · rw [if_neg e2] at h2
        exact B.inj _ _ _ h1 h2
  · by_cases e1 : w = r.w
    · rw [if_pos e1] at hp
      cases hp
      exact lne
    · rw [if_neg e1] at hp
      exact B.ne _ _ hp
/-- the lists of a book -/
def BookF (lk : Addr) (nw : Wd → Option Addr) : List Addr := lk :: [Wd.price, .come, .go, .least, .most, .deal, .fee].filterMap nw
theorem bookF_mem {lk : Addr} {nw : Wd → Option Addr} {w : Wd} {l : Addr} (h : nw w = some l) : l ∈ BookF lk nw := by
  refine List.mem_cons_of_mem _ (List.mem_filterMap.mpr ⟨w, ?_, h⟩)
  cases w <;> simp
/-- a book; F: its lists -/
def BookAt (K : PySem.W.Frag) (H : Hp) (F : List Addr) (v : V) (rs : List RuleD) : Prop := ∃ a dx lk nd kvs nw, v = .ref a ∧ F = BookF lk nw ∧ BookIn K H a dx lk nd kvs nw rs
theorem BookAt.mono {K : PySem.W.Frag} {H H' : Hp} {F : List Addr} {v : V} {rs : List RuleD} (k : Nk H H') (l : ∀ p ∈ F, ∀ xs, H p = some (.lst xs) → H' p = some (.lst xs)) (h : BookAt K H F v rs) : BookAt K H' F v rs := by
  obtain ⟨a, dx, lk, nd, kvs, nw, rfl, rfl, B⟩ := h
  obtain ⟨ks, h1, h2⟩ := B.kept
  have ik := k.ik
  refine ⟨a, dx, lk, nd, kvs, nw, rfl, rfl, ik.ins _ _ _ _ B.obj, ⟨ks, l _ (by simp [BookF]) _ h1, h2.ik ik⟩, k _ _ B.dic (fun xs e => by cases e), B.small, B.key, fun w p hp => ?_, B.none', B.inj, B.ne⟩
  obtain ⟨xs, h3, h4⟩ := B.here w p hp
  exact ⟨xs, l _ (bookF_mem hp) _ h3, h4.ik ik⟩
theorem bk_same {K : PySem.W.Frag} {H H' : Hp} {F : List Addr} {v : V} {rs : List RuleD} (k : Same H H') (h : BookAt K H F v rs) : BookAt K H' F v rs := h.mono (Same.nk k) fun p _ xs e => k _ _ e
theorem bk_new {K : PySem.W.Frag} {H : Hp} {p : Addr} {o : HO} {F : List Addr} {v : V} {rs : List RuleD} (hp : Fr H p) (h : BookAt K H F v rs) : BookAt K (upd H p o) F v rs := bk_same (same_new hp) h
theorem bk_put {K : PySem.W.Frag} {H : Hp} {p : Addr} {o : HO} {zs : List V} {F : List Addr} {v : V} {rs : List RuleD} (hp : H p = some (.lst zs)) (n : p ∉ F) (h : BookAt K H F v rs) : BookAt K (upd H p o) F v rs := h.mono (nk_put hp) fun q hq xs e => at_ne (fun z => n (by rw [← z]; exact hq)) e
theorem bk_kp {K : PySem.W.Frag} {H H' : Hp} {t b s : Addr} {F : List Addr} {v : V} {rs : List RuleD} (k : Kp [t, b] H H') (T : Tape H t b s) (n : ∀ p ∈ F, p ∉ [t, b]) (h : BookAt K H F v rs) : BookAt K H' F v rs := h.mono (nk_kp T k) fun q hq xs e => k _ _ e (n q hq)
/-! YS: what a book's defs promise, and that they keep it. -/
open PySem PySem.Spec PyProof.Rows L2
theorem find_at {α : Type} {p : α → Bool} : ∀ {l : List α} {i : Nat} {r : α}, (∀ x ∈ l.take i, p x = false) → l[i]? = some r → p r = true → l.find? p = some r
  | [], _, _, _, e, _ => by simp at e
  | a :: l, 0, r, _, e, h => by
    simp at e
    subst e
    rw [List.find?_cons, h]
  | a :: l, i + 1, r, n, e, h => by
    rw [List.find?_cons, n a (by simp)]
    exact find_at (i := i) (fun x hx => n x (by simp [hx])) (by simpa using e) h
/-- a raise that is never reached -/
def tNever : TS := fun _ _ _ => False
theorem ps_never {X : Cx} {s : Stmt} : PS X s tNever := ⟨fun _ _ _ _ _ _ h => h.elim⟩
def usualD : Wd → PyData
  | .price => .none | .come => .bool true | .go => .bool true | .least => .int 1 | .most => .int 14 | .deal => .none | .fee => .int 0
def usualV : Wd → V
  | .price => .non | .come => .bl true | .go => .bl true | .least => .int 1 | .most => .int 14 | .deal => .non | .fee => .int 0
theorem usual_td (H : Hp) (w : Wd) : Td H (usualV w) (usualD w) := by
  cases w
  · exact .non
  · exact .bl true
  · exact .bl true
  · exact .int 1
  · exact .int 14
  · exact .non
  · exact .int 0
def tellsD (rs : List RuleD) (w : Wd) (day : Int) : PyData := match (newestOf rs w).find? fun r => decide (r.f ≤ day) && decide (day ≤ r.l) with
  | some r => r.d
  | none => usualD w
def sp_usual (K : PySem.W.Frag) : Sp := Sp1 fun x H Q E => ∃ w : Wd, x = .str w.word ∧ Q (usualV w) H
theorem g_usual {K : PySem.W.Frag} {w : Wd} {H : Hp} {Q : VK} {E : XK} (q : Q (usualV w) H) : sp_usual K ([.str w.word] ++ []) H Q E := ⟨_, rfl, w, rfl, q⟩
def sp_Book_rules (K : PySem.W.Frag) : Sp := Sp1 fun v H Q E => CFR K ∧ CFB K ∧ ∃ F rs, BookAt K H F v rs ∧ rs.length ≤ 1000 ∧ ∀ p H' ys, Same H H' → Fr H p → H' p = some (.lst ys) → Paired (RuT H') ys rs → Q (.ref p) H'
theorem g_brules {K : PySem.W.Frag} {F : List Addr} {rs : List RuleD} {v : V} {H : Hp} {Q : VK} {E : XK} (c : CFR K) (cb : CFB K) (b : BookAt K H F v rs) (l : rs.length ≤ 1000) (q : ∀ p H' ys, Same H H' → Fr H p → H' p = some (.lst ys) → Paired (RuT H') ys rs → Q (.ref p) H') : sp_Book_rules K (v :: ([] ++ [])) H Q E := ⟨_, rfl, c, cb, F, rs, b, l, q⟩
def sp_Book_tells_of (K : PySem.W.Frag) : Sp := Sp3 fun v u y H Q E => CFR K ∧ CFB K ∧ ∃ F rs w day, BookAt K H F v rs ∧ u = .str w.word ∧ y = .int day ∧ ∀ x H', Same H H' → Td H' x (tellsD rs w day) → Q x H'
theorem g_tells_of {K : PySem.W.Frag} {F : List Addr} {rs : List RuleD} {w : Wd} {day : Int} {v : V} {H : Hp} {Q : VK} {E : XK} (c : CFR K) (cb : CFB K) (b : BookAt K H F v rs) (q : ∀ x H', Same H H' → Td H' x (tellsD rs w day) → Q x H') : sp_Book_tells_of K (v :: ([.str w.word, .int day] ++ [])) H Q E := ⟨_, _, _, rfl, c, cb, F, rs, w, day, b, rfl, rfl, q⟩
def sp_Book_init (K : PySem.W.Frag) : Sp := Sp2 fun v y H Q E => CFR K ∧ CFB K ∧ ∃ (a dx : Addr) (xs : List V) (rs : List RuleD), v = .ref a ∧ H a = some (.ins (He.ga K "Book") dx []) ∧ ((y = .non ∧ xs = []) ∨ ∃ p, y = .ref p ∧ SqL K H p xs) ∧ Paired (RuT H) xs rs ∧ rs.length ≤ 24 ∧ (∀ r ∈ rs, RuleD.good r) ∧
  ∀ H' F, Kp [a] H H' → BookAt K H' F v rs → (∀ p ∈ F, Fr H p) → Q .non H'
theorem g_mkBook {K : PySem.W.Frag} {E : XK} {H : Hp} {Q : VK} {vs dvs : List V} {y : V} {xs : List V} {rs : List RuleD} (c : CFR K) (cb : CFB K) (e : vs ++ dvs = [y]) (h : (y = .non ∧ xs = []) ∨ ∃ p, y = .ref p ∧ SqL K H p xs) (hp : Paired (RuT H) xs rs) (hl : rs.length ≤ 24) (hg : ∀ r ∈ rs, RuleD.good r)
    (q : ∀ v F H', Same H H' → BookAt K H' F v rs → (∀ p ∈ F, Fr H p) → Q v H') : rMake (He.ga K "Book") (sp_Book_init K) dvs E vs H Q := by
  intro a dx ha hd hne
  have h1 : upd H dx (.own a) a = none := by rw [upd_ne hne.symm]; exact ha
  have sm : Same H (upd (upd H dx (.own a)) a (.ins (He.ga K "Book") dx [])) := (same_new hd).trans (same_new h1)
  rw [e]
  refine ⟨_, _, rfl, c, cb, a, dx, xs, rs, rfl, upd_same, ?_, Paired.mapP hp fun _ _ r => r.tk (Same.tk sm), hl, hg, fun H' F k b f => ⟨rfl, q _ F H' (fun p o z => ?_) b fun p hp => Same.free sm (f p hp)⟩⟩
  · rcases h with h | ⟨p, h1, h2⟩
    · exact .inl h
    · exact .inr ⟨p, h1, Same.seq sm h2⟩
  · refine k _ _ (sm _ _ z) fun m => ?_
    rw [List.mem_singleton.mp m, ha] at z
    cases z
theorem g_bmeth {K : PySem.W.Frag} {m : Str} {sp : Sp} {t : TA} {n : Nat} {σ : L2.St} {H : Hp} {Q : VK} {v : V} {F : List Addr} {rs : List RuleD} (h : σ[n]? = some (some v)) (b : BookAt K H F v rs) (no : decide (m = "kept") = false ∧ decide (m = "newest") = false)
    (q : t σ H fun vs H2 => sp (v :: (vs ++ [])) H2 Q E0) : tMeth (He.ga K "Book") m sp [] E0 (tVar n) t σ H Q := by
  obtain ⟨a, dx, lk, nd, kvs, nw, rfl, rfl, B⟩ := b
  refine ⟨_, h, a, dx, _, rfl, B.obj, ?_, q⟩
  have h1 : (m == ("kept" : Str)) = false := beq_eq_false_iff_ne.mpr (of_decide_eq_false no.1)
  have h2 : (m == ("newest" : Str)) = false := beq_eq_false_iff_ne.mpr (of_decide_eq_false no.2)
  simp only [List.lookup, h1, h2]
theorem g_bfld {K : PySem.W.Frag} {f : Str} {n : Nat} {σ : L2.St} {H : Hp} {Q : VK} {a dx : Addr} {u x y : V} (cb : CFB K) (h : σ[n]? = some (some (.ref a))) (o : H a = some (.ins (He.ga K "Book") dx [("kept", x), ("newest", y)])) (m : f ∈ (["kept", "newest"] : List Str))
    (l : ([("kept", x), ("newest", y)] : List (Str × V)).lookup f = some u) (q : Q u H) : tFld K (tVar n) f σ H Q := ⟨_, h, a, _, dx, _, u, rfl, o, CFB.cls cb, CFB.no cb m, l, q⟩
/-- a field is written -/
def rSF (K : PySem.W.Frag) (f : Str) (x y : V) (H2 : Hp) (Q : Hp → Prop) : Prop := ∃ a C dx fs, x = .ref a ∧ H2 a = some (.ins C dx fs) ∧ Cls K C ∧ NoAttr K C f ∧ fs.length < 1000 ∧ Q (upd H2 a (.ins C dx (putF f y fs)))
theorem g_sFld {K : PySem.W.Frag} {ta tv : TE} {f : Str} {D : Ends} {σ : L2.St} {H : Hp} (q : tv σ H fun y H1 => ta σ H1 fun x H2 => rSF K f x y H2 fun H3 => D.nx σ H3) : sFld K ta tv f D σ H := q
theorem g_bset {K : PySem.W.Frag} {f : Str} {a dx : Addr} {fs : List (Str × V)} {y : V} {H : Hp} {Q : Hp → Prop} (cb : CFB K) (h : H a = some (.ins (He.ga K "Book") dx fs)) (m : f ∈ (["kept", "newest"] : List Str)) (l : fs.length < 1000) (q : Q (upd H a (.ins (He.ga K "Book") dx (putF f y fs)))) : rSF K f (.ref a) y H Q :=
  ⟨a, _, dx, fs, rfl, h, CFB.cls cb, CFB.no cb m, l, q⟩
theorem g_insert0 {H : Hp} {Q : VK} {l : Addr} {xs : List V} {y : V} (h : H l = some (.lst xs)) (z : xs.length < sizeLine) (q : Q .non (upd H l (.lst (y :: xs)))) : rInsert (.ref l) [.int 0, y] H Q :=
  ⟨l, xs, 0, y, rfl, rfl, h, z, by decide, by decide, by simpa using q⟩
theorem g_dSetd {td ty tx : TE} {σ : L2.St} {H : Hp} {Q : VK} (q : td σ H fun x H1 => ∃ a, x = .ref a ∧ IsD H1 a ∧ ty σ H1 fun y H2 => tx σ H2 fun z H3 => ∃ (kvs : List (Key × V)) (k : Key), H3 a = some (.dK kvs) ∧ y = kV k ∧ kvs.length < sizeLine ∧
  (∀ v, valV kvs k = some v → Q v H3) ∧ (valV kvs k = none → Q z (upd H3 a (.dK (putK kvs k z))))) : tDSetd td ty tx σ H Q := q
theorem g_iEnum {K : PySem.W.Frag} {σ : L2.St} {H : Hp} {ta : TA} {R : It → Hp → Prop} (h : ta σ H fun vs H1 => ∃ a xs, vs = [.ref a] ∧ SqL K H1 a xs ∧ R (Ite K a) H1) : iEnum K ta σ H R := h
theorem g_rule_ofG {K : PySem.W.Frag} {x : V} {r : RuleD} {H : Hp} {Q : VK} {E : XK} (c : CFR K) (h : RuT H x r) (g : r.good) (q : ∀ v H', Same H H' → RuleAt K H' v r → Q v H') : sp_rule_of K ([x] ++ []) H Q E :=
  g_rule_of c h.td.at0 (fun e => by rw [asRule_told g] at e; cases e) fun r' e v H' s hv => by
    rw [asRule_told g] at e
    cases e
    exact q v H' s hv
def t_usual (K : PySem.W.Frag) : TS :=
  (tSeq (tIfS (tOr (tTest (tOp rEq (tVar 0) (tC (.str "come")))) (tTest (tOp rEq (tVar 0) (tC (.str "go")))))
  (tRet (tC (.bl true)))
  tNext)
  (tSeq (tIfS (tTest (tOp rEq (tVar 0) (tC (.str "least"))))
  (tRet (tC (.int 1)))
  tNext)
  (tSeq (tIfS (tTest (tOp rEq (tVar 0) (tC (.str "most"))))
  (tRet (tC (.int 14)))
  tNext)
  (tSeq (tIfS (tTest (tOp rEq (tVar 0) (tC (.str "fee"))))
  (tRet (tC (.int 0)))
  tNext)
  (tRet (tC .non))))))
theorem pure_usual {K : PySem.W.Frag} {x : V} {H : Hp} {Q : VK} {E : XK} (h : sp_usual K [x] H Q E) : t_usual K { nx := fun _ H' => Q .non H', rt := Q } [some x] H := by
  obtain ⟨x, e, w, rfl, q⟩ := h
  cases e
  unfold t_usual
  cases w <;> (walk_at "ss"; repeat (first | (refine ite_dt rfl ?_; walk_at "ss") | (refine ite_df (by decide) ?_; walk_at "ss"))) <;> exact q
def t_Book_rules (K : PySem.W.Frag) : TS :=
  (tRet (tLc (iList K (tFld K (tVar 0) "kept")) (gName 1) tYes (tRule K "told" (sp_told K) (tVar 1) tNil) [1]))
theorem pure_Book_rules {K : PySem.W.Frag} {v : V} {H : Hp} {Q : VK} {E : XK} (h : sp_Book_rules K [v] H Q E) : t_Book_rules K { nx := fun _ H' => Q .non H', rt := Q } [some v, none] H := by
  obtain ⟨v, e, c, cb, F, rs, ⟨a, dx, lk, nd, kvs, nw, rfl, rfl, B⟩, hl, q⟩ := h
  cases e
  obtain ⟨ks, hk, hks⟩ := B.kept
  unfold t_Book_rules
  walk_at "ss"
  refine g_bfld cb rfl B.obj (by decide) rfl ?_
  walk_at "ss"
  have hlen := Paired.length hks
  refine lc_r (walk_list (K := K) (a := lk) (xs := ks)) RuT (fun _ _ _ _ e h => h.tk e) (fun i => rs[i]?) (by omega) (fun H' s => SqL.of (s _ _ hk)) ?_ ?_
  · rintro D i x H2 H3 N hD hi s2 ⟨rfl, hx⟩ hN _
    obtain ⟨r, hr, hv⟩ := Paired.getL hks hx
    obtain ⟨wv, hi, hwv⟩ := (hv.ik (Same.ik s2)).ins
    walk_at "ss"
    rename_i p H4 s4 f4 h4
    exact hN _ r _ hr s4 ⟨p, wv, rfl, h4, by walk_at "td"⟩
  intro D H2 ys hD s2 h2 hp
  walk_at "ss"
  refine q D H2 ys s2 hD h2 ?_
  have e : (List.range ks.length).filterMap (fun i => rs[i]?) = rs := by
    rw [hlen]
    have := range_flt rs some
    simpa using this
  rwa [e] at hp
def t_Book_tells_of (K : PySem.W.Frag) : TS :=
  (tSeq (tFor (iList K (tDGet2 (tFld K (tVar 0) "newest") (tVar 1) (tLst tNil))) (gName 3)
  (tIfS (tB (tRule K "tells" (sp_tells K) (tVar 3) (tCons (tVar 2) tNil)))
  (tRet (tFld K (tVar 3) "worth"))
  tNext))
  (tRet (tCall (sp_usual K) [] E0 (tCons (tVar 1) tNil))))
theorem pure_Book_tells_of {K : PySem.W.Frag} {v u y : V} {H : Hp} {Q : VK} {E : XK} (h : sp_Book_tells_of K [v, u, y] H Q E) : t_Book_tells_of K { nx := fun _ H' => Q .non H', rt := Q } [some v, some u, some y, none] H := by
  obtain ⟨v, u, y, e, c, cb, F, rs, w, day, ⟨a, dx, lk, nd, kvs, nw, rfl, rfl, B⟩, rfl, rfl, q⟩ := h
  cases e
  unfold t_Book_tells_of
  refine g_seqF ?_
  refine g_for ?_
  refine g_iList ?_
  show tFld K (tVar 0) "newest" _ H _
  refine g_bfld cb rfl B.obj (by decide) rfl ?_
  refine ⟨nd, rfl, .inl ⟨kvs, .inl B.dic⟩, ?_⟩
  walk_at "ss"
  rename_i z hz
  have sm : Same H (upd H z (.lst [])) := same_new hz
  have hcur : ∃ l xs, ((valV kvs (.inr w.word)).getD (.ref z)) = .ref l ∧ (upd H z (.lst [])) l = some (.lst xs) ∧ RulesAt K (upd H z (.lst [])) xs (newestOf rs w) := by
    rw [B.key]
    cases hn : nw w with
    | some l =>
      obtain ⟨xs, h1, h2⟩ := B.here _ _ hn
      exact ⟨l, xs, rfl, sm _ _ h1, h2.ik (Same.ik sm)⟩
    | none => exact ⟨z, [], rfl, upd_same, by rw [B.none' _ hn]; exact .nil⟩
  obtain ⟨l, xs, e1, hl, hx⟩ := hcur
  refine ⟨_, DGet.k (k := .inr w.word) (sm _ _ B.dic), ?_⟩
  rw [e1]
  refine ⟨l, rfl, ⟨xs, SqL.of hl⟩, ?_⟩
  refine for_list (K := K) (a := l) (xs := xs) (fun i σ H' => ∃ v3, σ = [some (.ref a), some (.str w.word), some (.int day), v3] ∧ H' = upd H z (.lst []) ∧ ∀ r ∈ (newestOf rs w).take i, (decide (r.f ≤ day) && decide (day ≤ r.l)) = false)
    ⟨_, rfl, rfl, by simp⟩ (fun i σ H' _ h => by obtain ⟨_, _, h, _⟩ := h; rw [h]; exact SqL.of hl) ?_ ?_
  · rintro i x σ H' hi ⟨v3, rfl, rfl, hno⟩
    obtain ⟨r, hr, hv⟩ := Paired.getL hx hi
    obtain ⟨wv, hin, hwv⟩ := hv.ins
    walk_at "ss"
    refine ite_b (fun h1 => ?_) fun h1 => ?_
    · walk_at "ss"
      refine q _ _ sm ?_
      unfold tellsD
      rw [find_at hno hr h1]
      exact hwv
    · walk_at "ss"
      refine ⟨_, rfl, rfl, fun x hx2 => ?_⟩
      rw [List.take_add_one, hr] at hx2
      rcases List.mem_append.mp hx2 with hx2 | hx2
      · exact hno x hx2
      · simp at hx2
        rw [hx2]
        exact h1
  · rintro σ H' ⟨v3, rfl, rfl, hno⟩
    walk_at "ss"
    refine q _ _ sm ?_
    unfold tellsD
    rw [List.take_of_length_le (Nat.le_of_eq (Paired.length hx).symm)] at hno
    rw [List.find?_eq_none.mpr fun x hx2 => by rw [hno x hx2]; simp]
    exact usual_td _ w
def t_Book_init (K : PySem.W.Frag) : TS :=
  (tSeq (tAsg (tLst tNil) (gName 2))
  (tSeq (tIfS (tTest (tOp rNotN (tVar 1) (tC .non)))
  (tAsg (tCB (rListOf K) (tCons (tVar 1) tNil)) (gName 2))
  tNext)
  (tSeq (sFld K (tVar 0) (tLst tNil) "kept")
  (tSeq (sFld K (tVar 0) tDNewK "newest")
  (tSeq (tFor (iEnum K (tCons (tVar 2) tNil)) (gTup K 2 (gCons (gName 3) (gCons (gName 4) gNil)))
  (tSeq (tAsg (tCall (sp_rule_of K) [] E0 (tCons (tVar 4) tNil)) (gName 5))
  (tSeq (tIfS (tTest (tOp rIsN (tVar 5) (tC .non)))
  tNever
  tNext)
  (tSeq (tDrop (tBM K "list" rAppend (tFld K (tVar 0) "kept") (tCons (tVar 5) tNil)))
  (tDrop (tBM K "list" rInsert (tDSetd (tFld K (tVar 0) "newest") (tRule K "word" (sp_word K) (tVar 5) tNil) (tLst tNil)) (tCons (tC (.int 0)) (tCons (tVar 5) tNil))))))))
  (tIfS (tTest (tOp rGt (tCB (rLen K) (tCons (tVar 2) tNil)) (tC (.int 24))))
  tNever
  tNext))))))
theorem pure_Book_init {K : PySem.W.Frag} {v y : V} {H : Hp} {Q : VK} {E : XK} (h : sp_Book_init K [v, y] H Q E) : t_Book_init K { nx := fun _ H' => Q .non H', rt := Q } [some v, some y, none, none, none, none] H := by
  obtain ⟨v, y, e, c, cb, a, dx, xs, rs, rfl, ho, hy, hxs, hl, hg, q⟩ := h
  cases e
  unfold t_Book_init
  walk_at "ss"
  rename_i th0 hth0
  have hlen := Paired.length hxs
  with_reducible refine jn (P := fun σ H' => ∃ th, σ = [some (.ref a), some y, some (.ref th), none, none, none] ∧ Same H H' ∧ H' th = some (.lst xs)) ?_ fun N hN => ?_
  · clear hth0
    rintro σ H1 ⟨th, rfl, s1, h1⟩
    with_reducible refine g_seq ?_
    with_reducible refine g_sFld ?_
    walk_at "ss"
    rename_i lk hlk
    refine g_bset cb (at_new hlk (s1 _ _ ho)) (by decide) (by decide) ?_
    with_reducible refine g_seq ?_
    with_reducible refine g_sFld ?_
    show ∀ nd, _ = none → _
    intro nd hnd
    walk_at "ss"
    have hla : a ≠ lk := ne_of_none (s1 _ _ ho) hlk
    have hda : a ≠ nd := ne_of_none upd_same hnd
    have hdl : lk ≠ nd := ne_of_none (o := .lst []) (at_ne hla.symm upd_same) hnd
    have htl : th ≠ lk := ne_of_none h1 hlk
    have hta : th ≠ a := fun z => by rw [z, s1 _ _ ho] at h1; cases h1
    have htd : th ≠ nd := ne_of_none (o := .lst xs) (at_ne hta (at_ne htl h1)) hnd
    have fl : Fr H lk := Same.free s1 hlk
    have fd : Fr H nd := Same.free s1 (by
      have z := hnd
      rw [upd_ne hda.symm, upd_ne hdl.symm] at z
      exact z)
    refine g_bset cb (at_ne hda upd_same) (by decide) (show (1 : Nat) < 1000 by decide) ?_
    obtain ⟨G, hG⟩ : ∃ G, G = upd (upd (upd (upd H1 lk (.lst [])) a (.ins (He.ga K "Book") dx (putF "kept" (.ref lk) []))) nd (.dK [])) a (.ins (He.ga K "Book") dx (putF "newest" (.ref nd) (putF "kept" (.ref lk) []))) := ⟨_, rfl⟩
    rw [← hG]
    have hGa : G a = some (.ins (He.ga K "Book") dx [("kept", .ref lk), ("newest", .ref nd)]) := by rw [hG]; exact upd_same
    have hGl : G lk = some (.lst []) := by rw [hG]; exact at_ne hla.symm (at_ne hdl (at_ne hla.symm upd_same))
    have hGd : G nd = some (.dK []) := by rw [hG]; exact at_ne hda.symm upd_same
    have hGt : G th = some (.lst xs) := by rw [hG]; exact at_ne hta (at_ne htd (at_ne hta (at_ne htl h1)))
    have kG : Kp [a] H G := fun p o e n => by
      have np : p ≠ a := fun z => n (by rw [z]; simp)
      rw [hG]
      exact at_ne np (at_ne (ne_of_none e fd) (at_ne np (at_ne (ne_of_none e fl) (s1 _ _ e))))
    have BG : BookIn K G a dx lk nd [] (fun _ => none) [] := ⟨hGa, ⟨[], hGl, .nil⟩, hGd, Nat.le_refl _, (fun _ => rfl), (fun _ _ e => by cases e), (fun _ _ => rfl), (fun _ _ _ e => by cases e), (fun _ _ e => by cases e)⟩
    clear hG hnd hlk h1 s1 hGa hGl hGd
    with_reducible refine g_seqF ?_
    refine g_for ?_
    refine g_iEnum ?_
    walk_at "ss"
    refine ⟨th, xs, rfl, SqL.of hGt, ?_⟩
    refine for_it (walk_enum (K := K) (a := th) (xs := xs)) (fun i σ H' => ∃ v3 v4 v5 kvs nw, σ = [some (.ref a), some y, some (.ref th), v3, v4, v5] ∧ Kp [a] H H' ∧ H' th = some (.lst xs) ∧ BookIn K H' a dx lk nd kvs nw (rs.take i) ∧ ∀ w l, nw w = some l → Fr H l ∧ l ≠ th)
      ⟨_, _, _, [], _, rfl, kG, hGt, BG, (fun _ _ e => by cases e)⟩ (fun i σ H' _ h => by obtain ⟨_, _, _, _, _, _, _, h, _⟩ := h; exact SqL.of h) ?_ ?_
    · clear BG kG hGt G H1 th0 q
      rintro i x σ H' H2 hi ⟨v3, v4, v5, kvs, nw, rfl, k', ht, B, hnw⟩ ⟨T, x1, x2, rfl, hT, rfl, h1, h2⟩
      replace hT : Fr H' T := hT
      replace h2 : xs[i]? = some x2 := h2
      obtain rfl : x1 = .int (i : Nat) := (Option.some.inj h1).symm
      obtain ⟨r, hr, hx⟩ := Paired.getL hxs h2
      have hgr := hg r (List.mem_of_getElem? hr)
      have tkA : Tk H H' := fun p ys e => k' _ _ e fun m => by rw [List.mem_singleton.mp m, ho] at e; cases e
      have hx2 : RuT (upd H' T (.tup [.int (i : Nat), x2])) x2 r := (hx.tk tkA).tk (tk_new hT)
      walk_at "ss"
      refine g_rule_ofG c hx2 hgr fun v H3 s3 hv => ?_
      walk_at "ss"
      obtain ⟨pv, dv, wv, rfl, hvo, hvd⟩ := id hv
      have s' : Same H' H3 := (same_new hT).trans s3
      obtain ⟨ks, hk, hks⟩ := B.kept
      have hk3 := s' _ _ hk
      have hkl : ks.length ≤ 24 := by
        rw [Paired.length hks, List.length_take]
        omega
      have hsm := B.small
      rw [List.length_take] at hsm
      have etk : rs.take (i + 1) = rs.take i ++ [r] := by rw [List.take_add_one, hr]; rfl
      have hla3 : a ≠ lk := hla
      have hin : InsAt K H3 (.ref pv) r.w (.int r.f) (.int r.l) wv := ⟨pv, dv, rfl, hvo⟩
      with_reducible refine g_seq ?_
      walk_at "ss"
      refine ite_df (by simp) ?_
      with_reducible refine g_next ?_
      with_reducible refine g_seqD ?_
      with_reducible refine g_drop ?_
      with_reducible refine g_bm ?_
      refine g_bfld cb rfl (s' _ _ B.obj) (by decide) rfl ?_
      walk_at "ss"
      have hin4 : InsAt K (upd H3 lk (.lst (ks ++ [.ref pv]))) (.ref pv) r.w (.int r.f) (.int r.l) wv := ins_put hk3 hin
      have dic4 : (upd H3 lk (.lst (ks ++ [.ref pv]))) nd = some (.dK kvs) := at_ne hdl.symm (s' _ _ B.dic)
      refine g_dSetd ?_
      refine g_bfld cb rfl (at_ne hla (s' _ _ B.obj)) (by decide) rfl ?_
      refine ⟨nd, rfl, .inl ⟨kvs, .inl dic4⟩, ?_⟩
      walk_at "ss"
      rename_i z hz
      have hzk : Fr H3 z := fr_new hz
      have hz' : Fr H' z := Same.free s' hzk
      have fz : Fr H z := by
        refine fr_kp hz' k' fun m => ?_
        rw [List.mem_singleton.mp m] at hz'
        have := B.obj
        rw [show H' a = none from hz'] at this
        cases this
      have zlk : z ≠ lk := (ne_of_none hk3 hzk).symm
      have zth : z ≠ th := (ne_of_none ht hz').symm
      have znd : z ≠ nd := (ne_of_none (s' _ _ B.dic) hzk).symm
      have za : z ≠ a := (ne_of_none (s' _ _ B.obj) hzk).symm
      have ik4 : Ik H' (upd (upd H3 lk (.lst (ks ++ [.ref pv]))) z (.lst [])) := (Same.ik s').trans (((nk_put hk3).trans (nk_new hz)).ik)
      have hv4 : RuleAt K (upd (upd H3 lk (.lst (ks ++ [.ref pv]))) z (.lst [])) (.ref pv) r := hv.ik (((nk_put hk3).trans (nk_new hz)).ik)
      refine ⟨kvs, .inr r.w.word, at_new hz dic4, rfl, by rw [sizeLine_eq]; omega, fun v' hv' => ?_, fun hn => ?_⟩
      · rw [B.key] at hv'
        cases hn : nw r.w with
        | none => rw [hn] at hv'; cases hv'
        | some l =>
          rw [hn] at hv'
          obtain rfl : V.ref l = v' := Option.some.inj hv'
          obtain ⟨ys, hly, hys⟩ := B.here _ _ hn
          have llk := B.ne _ _ hn
          have lz : l ≠ z := ne_of_none hly hz'
          have hl5 : (upd (upd H3 lk (.lst (ks ++ [.ref pv]))) z (.lst [])) l = some (.lst ys) := at_ne lz (at_ne llk (s' _ _ hly))
          refine g_tyL (SqL.of hl5) ?_
          walk_at "ss"
          refine g_insert0 hl5 (by
            rw [Paired.length hys, sizeLine_eq]
            unfold newestOf
            rw [List.length_reverse]
            have h1 := List.length_filter_le (fun r' : RuleD => decide (r'.w = r.w)) (rs.take i)
            rw [List.length_take] at h1
            omega) ?_
          have ik5 := ik4.trans (nk_put (o := .lst (.ref pv :: ys)) hl5).ik
          refine ⟨_, _, _, kvs, (fun w => if w = r.w then some l else nw w), rfl, ?_, ?_, ?_, fun w p hp => ?_⟩
          · exact fun p o e n => at_ne (ne_of_none e (hnw _ _ hn).1) (at_ne (ne_of_none e fz) (at_ne (ne_of_none e fl) (s' _ _ (k' _ _ e n))))
          · exact at_ne (Ne.symm (hnw _ _ hn).2) (at_ne zth.symm (at_ne htl (s' _ _ ht)))
          · rw [etk]
            refine B.step (hv4.ik (nk_put hl5).ik) ik5 hk (at_ne llk.symm (at_ne zlk.symm upd_same)) (at_ne ?_ (at_new hz dic4)) (by rw [List.length_take]; omega) (fun w => ?_) upd_same (.inl ⟨hn, hly⟩) fun w p hw hp ys' hy' => ?_
            · intro e
              rw [← e] at hly
              rw [B.dic] at hly
              cases hly
            · by_cases e : w = r.w
              · rw [if_pos e, e, B.key, hn]; rfl
              · rw [if_neg e]
            · have pl : p ≠ l := fun e => hw (B.inj _ _ _ hp (by rw [e]; exact hn))
              exact at_ne pl (at_ne (ne_of_none hy' hz') (at_ne (B.ne _ _ hp) (s' _ _ hy')))
          · replace hp : (if w = r.w then some l else nw w) = some p := hp
            by_cases e : w = r.w
            · rw [if_pos e] at hp
              cases hp
              exact hnw _ _ hn
            · rw [if_neg e] at hp
              exact hnw _ _ hp
      · have hnn : nw r.w = none := by
          rw [B.key] at hn
          cases e : nw r.w with
          | none => rfl
          | some l => rw [e] at hn; cases hn
        have hz5 : (upd (upd (upd H3 lk (.lst (ks ++ [.ref pv]))) z (.lst [])) nd (.dK (putK kvs (.inr r.w.word) (.ref z)))) z = some (.lst []) := at_ne znd upd_same
        refine g_tyL (SqL.of hz5) ?_
        walk_at "ss"
        try refine g_insert0 hz5 (by rw [sizeLine_eq]; decide) ?_
        have ikd := ik_dic (o := .dK (putK kvs (.inr r.w.word) (.ref z))) (at_new (u := .lst []) hz dic4)
        have ik5 := (ik4.trans ikd).trans (nk_put (o := .lst [.ref pv]) hz5).ik
        refine ⟨_, _, _, putK kvs (.inr r.w.word) (.ref z), (fun w => if w = r.w then some z else nw w), rfl, ?_, ?_, ?_, fun w p hp => ?_⟩
        · exact fun p o e n => at_ne (ne_of_none e fz) (at_ne (ne_of_none e fd) (at_ne (ne_of_none e fz) (at_ne (ne_of_none e fl) (s' _ _ (k' _ _ e n)))))
        · exact at_ne zth.symm (at_ne htd (at_ne zth.symm (at_ne htl (s' _ _ ht))))
        · rw [etk]
          refine B.step ((hv4.ik ikd).ik (nk_put hz5).ik) ik5 hk (at_ne zlk.symm (at_ne hdl (at_ne zlk.symm upd_same))) (at_ne znd.symm upd_same) (by
            have := length_putK kvs (.inr r.w.word) (.ref z)
            rw [List.length_take]
            omega) (fun w => ?_) upd_same (.inr ⟨hnn, rfl, zlk, fun w e => ?_⟩) fun w p hw hp ys' hy' => ?_
          · rw [valV_put]
            by_cases e : w = r.w
            · rw [if_pos e, if_pos (by rw [e])]
            · rw [if_neg e, if_neg fun h => e (Wd.word_inj (Sum.inr.inj h))]
          · obtain ⟨ys, h3, -⟩ := B.here _ _ e
            rw [show H' z = none from hz'] at h3
            cases h3
          · have pnd : p ≠ nd := fun e => by
              rw [e, B.dic] at hy'
              cases hy'
            exact at_ne (ne_of_none hy' hz') (at_ne pnd (at_ne (ne_of_none hy' hz') (at_ne (B.ne _ _ hp) (s' _ _ hy'))))
        · replace hp : (if w = r.w then some z else nw w) = some p := hp
          by_cases e : w = r.w
          · rw [if_pos e] at hp
            cases hp
            exact ⟨fz, zth⟩
          · rw [if_neg e] at hp
            exact hnw _ _ hp
    · rintro σ H' ⟨v3, v4, v5, kvs, nw, rfl, k', ht, B, hnw⟩
      walk_at "ss"
      refine ite_df (by rw [hlen]; omega) ?_
      walk_at "ss"
      rw [List.take_of_length_le (by omega)] at B
      refine q H' _ k' ⟨a, dx, lk, nd, kvs, nw, rfl, rfl, B⟩ fun p hp => ?_
      rcases List.mem_cons.mp hp with rfl | hp
      · exact fl
      · obtain ⟨w, -, hw⟩ := List.mem_filterMap.mp hp
        exact (hnw w p hw).1
  · walk_at "ss"
    rcases hy with ⟨rfl, rfl⟩ | ⟨p, rfl, hp⟩
    · refine ite_ndt rfl ?_
      walk_at "ss"
      exact hN _ _ ⟨_, rfl, by walk_at "sm", upd_same⟩
    · refine ite_ndf (by simp) ?_
      walk_at "ss"
      exact hN _ _ ⟨_, rfl, by walk_at "sm", upd_same⟩
/-! YU: lists of drawn rules. -/
open PySem PySem.Spec PyProof.Rows L2
theorem sho_word (k : Nat) (w : Wd) : Sho k 80 (.str w.word) := ⟨rfl, rfl, Nat.zero_le _, by
  show (reprText w.word).length ≤ 80
  cases w <;> decide +kernel⟩
theorem isCoins_b {d : PyData} (h : isCoins d = true) : ∃ i, d = .int i ∧ 0 ≤ i ∧ i ≤ 1000000000000 := by
  cases d with
  | int i =>
    have h' : (decide (0 ≤ i) && decide (i ≤ 1000000000000)) = true := h
    simp at h'
    exact ⟨i, rfl, h'⟩
  | _ => cases h
theorem isNights_b {d : PyData} (h : isNights d = true) : ∃ i, d = .int i ∧ 1 ≤ i ∧ i ≤ 14 := by
  cases d with
  | int i =>
    have h' : (decide (1 ≤ i) && decide (i ≤ 14)) = true := h
    simp at h'
    exact ⟨i, rfl, h'⟩
  | _ => cases h
theorem isDeal_ex {d : PyData} (h : isDeal d = true) : d = .none ∨ ∃ m f, d = .tuple [.int m, .int f] ∧ 1 ≤ m ∧ m ≤ 14 ∧ 1 ≤ f ∧ f < m := by
  cases d with
  | none => exact .inl rfl
  | tuple ds =>
    refine .inr ?_
    by_cases hl : ds.length = 2
    · match ds, hl with
      | [p, q], _ =>
        have hp : isNights p = true := by
          cases e : isNights p with
          | true => rfl
          | false => rw [isDeal_n e] at h; cases h
        have hq : isW q = true := by
          cases e : isW q with
          | true => rfl
          | false => rw [isDeal_w e] at h; cases h
        obtain ⟨m, rfl, m0, m1⟩ := isNights_b hp
        obtain ⟨f, rfl⟩ := isW_int hq
        have h' : (isNights (.int m) && (decide (1 ≤ f) && decide (f < m))) = true := h
        rw [hp] at h'
        simp at h'
        exact ⟨m, f, rfl, m0, m1, h'⟩
    · rw [isDeal_no hl] at h; cases h
  | _ => cases h
theorem sho_small (k : Nat) {i : Int} (h0 : -1000000000001 ≤ i) (h1 : i ≤ 1000000000001) : Sho k 80 (.int i) := sho_int k (Nat.lt_of_le_of_lt (show i.natAbs ≤ 1000000000001 by omega) (by decide))
theorem sho_fits {w : Wd} {d : PyData} (h : fitsD w d = true) : Sho 1 200 d := by
  have coins : isCoins d = true → Sho 1 200 d := fun h => by
    obtain ⟨i, rfl, h0, h1⟩ := isCoins_b h
    exact (sho_small 1 (by omega) (by omega)).mono (Nat.le_refl _) (by decide)
  have nights : isNights d = true → Sho 1 200 d := fun h => by
    obtain ⟨i, rfl, h0, h1⟩ := isNights_b h
    exact (sho_small 1 (by omega) (by omega)).mono (Nat.le_refl _) (by decide)
  have bool : isBool d = true → Sho 1 200 d := fun h => by
    cases d with
    | bool b => exact (sho_bl 1 b).mono (Nat.le_refl _) (by decide)
    | _ => cases h
  have none' : d = .none → Sho 1 200 d := fun e => by
    subst e
    exact (sho_non 1).mono (Nat.le_refl _) (by decide)
  cases w with
  | price =>
    have h' : (isNone d || isCoins d) = true := h
    rcases Bool.or_eq_true_iff.mp h' with h | h
    · refine none' ?_
      cases d <;> first | rfl | cases h
    · exact coins h
  | come => exact bool h
  | go => exact bool h
  | least => exact nights h
  | most => exact nights h
  | fee => exact coins h
  | deal =>
    rcases isDeal_ex h with e | ⟨m, f, rfl, m0, m1, f0, f1⟩
    · exact none' e
    · refine (sho_tup (k := 0) (m := 80) (ds := [.int m, .int f]) fun x hx => ?_).mono (Nat.le_refl _) (by simp)
      simp only [List.mem_cons, List.not_mem_nil, or_false] at hx
      rcases hx with rfl | rfl
      · exact sho_small 0 (by omega) (by omega)
      · exact sho_small 0 (by omega) (by omega)
theorem sho_told {r : RuleD} (h : r.good) : Sho 2 1000 r.told := by
  obtain ⟨h1, h2, h3, h4⟩ := h
  refine (sho_tup (k := 1) (m := 200) (ds := [.str r.w.word, .int r.f, .int r.l, r.d]) fun x hx => ?_).mono (Nat.le_refl _) (by simp)
  simp only [List.mem_cons, List.not_mem_nil, or_false] at hx
  rcases hx with rfl | rfl | rfl | rfl
  · exact (sho_word 1 r.w).mono (Nat.le_refl _) (by decide)
  · exact (sho_small 1 (by omega) (by omega)).mono (Nat.le_refl _) (by decide)
  · exact (sho_small 1 (by omega) (by omega)).mono (Nat.le_refl _) (by decide)
  · exact sho_fits h4
def Rus (H : Hp) (xs : List V) (rs : List RuleD) : Prop := Paired (RuT H) xs rs
theorem Rus.tk {H H' : Hp} {xs : List V} {rs : List RuleD} (k : Tk H H') (h : Rus H xs rs) : Rus H' xs rs := Paired.mapP h fun _ _ q => q.tk k
theorem ru_nil {H : Hp} : Rus H [] [] := .nil
theorem ru_new {H : Hp} {p : Addr} {o : HO} {xs : List V} {rs : List RuleD} (hp : Fr H p) (h : Rus H xs rs) : Rus (upd H p o) xs rs := h.tk (tk_new hp)
theorem ru_put {H : Hp} {p : Addr} {o : HO} {zs : List V} {xs : List V} {rs : List RuleD} (hp : H p = some (.lst zs)) (h : Rus H xs rs) : Rus (upd H p o) xs rs := h.tk (tk_put hp)
theorem ru_same {H H' : Hp} {xs : List V} {rs : List RuleD} (k : Same H H') (h : Rus H xs rs) : Rus H' xs rs := h.tk (Same.tk k)
theorem ru_kp {H H' : Hp} {t b s : Addr} {xs : List V} {rs : List RuleD} (k : Kp [t, b] H H') (T : Tape H t b s) (h : Rus H xs rs) : Rus H' xs rs := h.tk (tk_kp T k)
theorem ru_app {H : Hp} {xs ys : List V} {rs ss : List RuleD} (h : Rus H xs rs) (g : Rus H ys ss) : Rus H (xs ++ ys) (rs ++ ss) := Paired.app h g
theorem ru_take {H : Hp} {n : Nat} {xs : List V} {rs : List RuleD} (h : Rus H xs rs) : Rus H (xs.take n) (rs.take n) := Paired.take n h
theorem ru_one {H : Hp} {p : Addr} {w : Wd} {f l : Int} {wv : V} {d : PyData} (h : H p = some (.tup [.str w.word, .int f, .int l, wv])) (g : Td H wv d) : RuT H (.ref p) ⟨w, f, l, d⟩ := ⟨p, wv, rfl, h, g⟩
theorem ru_len {H : Hp} {xs : List V} {rs : List RuleD} (h : Rus H xs rs) : xs.length = rs.length := Paired.length h
theorem dp_rules {K : PySem.W.Frag} {H : Hp} : ∀ {xs : List V} {rs : List RuleD}, Rus H xs rs → DpAll K H xs (rs.map RuleD.told)
  | _, _, .nil => .nil
  | _, _, .cons r t => .cons r.td.dp (dp_rules t)
theorem dp_row {K : PySem.W.Frag} {H : Hp} {p : Addr} {xs : List V} {rs : List RuleD} (h : SqL K H p xs) (r : Rus H xs rs) : Dp K H (.ref p) (.list (rs.map RuleD.told)) := .lst h (dp_rules r)
theorem sho_row {rs : List RuleD} (g : ∀ r ∈ rs, RuleD.good r) (l : rs.length ≤ 100) : Sho 3 110000 (.list (rs.map RuleD.told)) := (sho_lst (k := 2) (m := 1000) fun x hx => by
  obtain ⟨r, hr, rfl⟩ := List.mem_map.mp hx
  exact sho_told (g r hr)).mono (Nat.le_refl _) (by rw [List.length_map]; omega)
theorem g_reprRow {K : PySem.W.Frag} {H : Hp} {Q : VK} {p : Addr} {xs : List V} {rs : List RuleD} (h : SqL K H p xs) (r : Rus H xs rs) (g : ∀ r ∈ rs, RuleD.good r) (l : rs.length ≤ 100) (q : Q (.str (PyData.list (rs.map RuleD.told)).shown) H) : rReprD K [.ref p] H Q :=
  g_repr (dp_row h r) (sho_row g l) (by decide) (by decide) q
theorem gd_nil : ∀ r ∈ ([] : List RuleD), RuleD.good r := by simp
theorem gd_app {rs ss : List RuleD} (h : ∀ r ∈ rs, RuleD.good r) (g : ∀ r ∈ ss, RuleD.good r) : ∀ r ∈ rs ++ ss, RuleD.good r := fun r hr => (List.mem_append.mp hr).elim (h r) (g r)
theorem gd_take {rs : List RuleD} {n : Nat} (h : ∀ r ∈ rs, RuleD.good r) : ∀ r ∈ rs.take n, RuleD.good r := fun r hr => h r (List.mem_of_mem_take hr)
theorem nf_old {H : Hp} {F : List Addr} {p : Addr} {o : HO} (f : ∀ p ∈ F, Fr H p) (h : H p = some o) : p ∉ F := fun m => by
  have := f p m
  rw [show H p = none from this] at h
  cases h
theorem tape_free {H : Hp} {t b s : Addr} {F : List Addr} (T : Tape H t b s) (f : ∀ p ∈ F, Fr H p) : ∀ p ∈ F, p ∉ [t, b] := fun p hp => ni_tape (f p hp) T
theorem g_mkBookL {K : PySem.W.Frag} {E : XK} {H : Hp} {Q : VK} {vs dvs : List V} {p t b s : Addr} {xs : List V} {rs : List RuleD} (c : CFR K) (cb : CFB K) (e : vs ++ dvs = [.ref p]) (h : SqL K H p xs) (hp : Rus H xs rs) (hl : rs.length ≤ 24) (hg : ∀ r ∈ rs, RuleD.good r) (T : Tape H t b s)
    (q : ∀ v F H', Same H H' → BookAt K H' F v rs → (∀ p ∈ F, Fr H p) → (∀ p ∈ F, p ∉ [t, b]) → Q v H') : rMake (He.ga K "Book") (sp_Book_init K) dvs E vs H Q :=
  g_mkBook c cb e (.inr ⟨p, rfl, h⟩) hp hl hg fun v F H' s b f => q v F H' s b f (tape_free T f)
theorem g_brulesR {K : PySem.W.Frag} {F : List Addr} {rs : List RuleD} {v : V} {H : Hp} {Q : VK} {E : XK} (c : CFR K) (cb : CFB K) (b : BookAt K H F v rs) (l : rs.length ≤ 1000) (q : ∀ p H' ys, Same H H' → Fr H p → H' p = some (.lst ys) → Rus H' ys rs → Q (.ref p) H') : sp_Book_rules K (v :: ([] ++ [])) H Q E := g_brules c cb b l q
/-- a method of what an expression makes -/
def rObj (C : Addr) (m : Str) (x : V) (H1 : Hp) (R : Hp → Prop) : Prop := ∃ a dx fs, x = .ref a ∧ H1 a = some (.ins C dx fs) ∧ fs.lookup m = none ∧ R H1
theorem g_meth {C : Addr} {m : Str} {sp : Sp} {dvs : List V} {E : XK} {ta : TE} {t : TA} {σ : L2.St} {H : Hp} {Q : VK} (q : ta σ H fun x H1 => rObj C m x H1 fun H2 => t σ H2 fun vs H3 => sp (x :: (vs ++ dvs)) H3 Q E) : tMeth C m sp dvs E ta t σ H Q := q
theorem g_robj {K : PySem.W.Frag} {m : Str} {H : Hp} {v : V} {F : List Addr} {rs : List RuleD} {R : Hp → Prop} (b : BookAt K H F v rs) (no : decide (m = "kept") = false ∧ decide (m = "newest") = false) (q : R H) : rObj (He.ga K "Book") m v H R := by
  obtain ⟨a, dx, lk, nd, kvs, nw, rfl, rfl, B⟩ := b
  refine ⟨a, dx, _, rfl, B.obj, ?_, q⟩
  have h1 : (m == ("kept" : Str)) = false := beq_eq_false_iff_ne.mpr (of_decide_eq_false no.1)
  have h2 : (m == ("newest" : Str)) = false := beq_eq_false_iff_ne.mpr (of_decide_eq_false no.2)
  simp only [List.lookup, h1, h2]
theorem g_slTo {K : PySem.W.Frag} {H : Hp} {Q : VK} {p : Addr} {xs : List V} {n : Int} (hn : 0 ≤ n) (h : SqL K H p xs) (q : ∀ a, Fr H a → Q (.ref a) (upd H a (.lst (xs.take n.toNat)))) : rSlL K (.ref p) none (some n) H Q := g_slL h fun a ha => by
  rw [cut_to hn]; exact q a ha
theorem g_slFrom {K : PySem.W.Frag} {H : Hp} {Q : VK} {p : Addr} {xs : List V} {n : Int} (hn : 0 ≤ n) (h : SqL K H p xs) (q : ∀ a, Fr H a → Q (.ref a) (upd H a (.lst (xs.drop n.toNat)))) : rSlL K (.ref p) (some n) none H Q := g_slL h fun a ha => by
  rw [cut_from hn]; exact q a ha
/-! YV: the worth that is due. -/
open PySem PySem.Spec PyProof.Rows L2
def dueD (rs : List RuleD) (w : Wd) (day : Int) : PyData := rs.foldl (fun d r => if r.w = w ∧ r.f ≤ day ∧ day ≤ r.l then r.d else d) (usualD w)
theorem tells_snoc (rs : List RuleD) (r : RuleD) (w : Wd) (day : Int) : tellsD (rs ++ [r]) w day = if r.w = w ∧ r.f ≤ day ∧ day ≤ r.l then r.d else tellsD rs w day := by
  unfold tellsD
  rw [newest_snoc]
  by_cases h : r.w = w
  · rw [if_pos h, List.find?_cons]
    by_cases h1 : r.f ≤ day ∧ day ≤ r.l
    · rw [if_pos ⟨h, h1⟩, decide_eq_true h1.1, decide_eq_true h1.2]
      rfl
    · rw [if_neg (fun z => h1 z.2)]
      have : (decide (r.f ≤ day) && decide (day ≤ r.l)) = false := by
        rw [← Bool.decide_and]
        exact decide_eq_false h1
      rw [this]
  · rw [if_neg h, if_neg fun z => h z.1]
theorem tells_mem (rs : List RuleD) (w : Wd) (day : Int) : tellsD rs w day = usualD w ∨ ∃ r ∈ rs, r.w = w ∧ r.f ≤ day ∧ day ≤ r.l ∧ tellsD rs w day = r.d := by
  have : ∀ l : List RuleD, tellsD l.reverse w day = usualD w ∨ ∃ r ∈ l.reverse, r.w = w ∧ r.f ≤ day ∧ day ≤ r.l ∧ tellsD l.reverse w day = r.d := by
    intro l
    induction l with
    | nil => exact .inl rfl
    | cons r l ih =>
      rw [List.reverse_cons, tells_snoc]
      by_cases h : r.w = w ∧ r.f ≤ day ∧ day ≤ r.l
      · rw [if_pos h]
        exact .inr ⟨r, by simp, h.1, h.2.1, h.2.2, rfl⟩
      · rw [if_neg h]
        rcases ih with e | ⟨r', h1, h2⟩
        · exact .inl e
        · exact .inr ⟨r', List.mem_append_left _ h1, h2⟩
  have h := this rs.reverse
  rwa [List.reverse_reverse] at h
/-! YC: lists of data; what a book tells is of the word's kind. -/
open PySem PySem.Spec PyProof.Rows L2
theorem tds_app {H : Hp} {ys : List V} {es : List PyData} (g : Tds H ys es) : ∀ {xs : List V} {ds : List PyData}, Tds H xs ds → Tds H (xs ++ ys) (ds ++ es)
  | _, _, .nil => g
  | _, _, .cons a b => .cons a (tds_app g b)
theorem tds_snoc {H : Hp} {xs : List V} {ds : List PyData} {x : V} {d : PyData} (h : Tds H xs ds) (g : Td H x d) : Tds H (xs ++ [x]) (ds ++ [d]) := tds_app (.cons g .nil) h
theorem tds_tk {H H' : Hp} {xs : List V} {ds : List PyData} (k : Tk H H') (h : Tds H xs ds) : Tds H' xs ds := h.tk k
theorem tds_new {H : Hp} {p : Addr} {o : HO} {xs : List V} {ds : List PyData} (hp : Fr H p) (h : Tds H xs ds) : Tds (upd H p o) xs ds := tds_tk (tk_new hp) h
theorem tds_put {H : Hp} {p : Addr} {o : HO} {zs : List V} {xs : List V} {ds : List PyData} (hp : H p = some (.lst zs)) (h : Tds H xs ds) : Tds (upd H p o) xs ds := tds_tk (tk_put hp) h
theorem tds_same {H H' : Hp} {xs : List V} {ds : List PyData} (k : Same H H') (h : Tds H xs ds) : Tds H' xs ds := tds_tk (Same.tk k) h
theorem tds_kp {H H' : Hp} {t b s : Addr} {xs : List V} {ds : List PyData} (k : Kp [t, b] H H') (T : Tape H t b s) (h : Tds H xs ds) : Tds H' xs ds := tds_tk (tk_kp T k) h
theorem tds_len {H : Hp} : ∀ {xs : List V} {ds : List PyData}, Tds H xs ds → xs.length = ds.length
  | _, _, .nil => rfl
  | _, _, .cons a b => by simp [tds_len b]
theorem tds_dp {K : PySem.W.Frag} {H : Hp} : ∀ {xs : List V} {ds : List PyData}, Tds H xs ds → DpAll K H xs ds
  | _, _, .nil => .nil
  | _, _, .cons a b => .cons a.dp (tds_dp b)
theorem tds_of {H : Hp} : ∀ {xs : List V} {ds : List PyData}, Paired (fun v d => Td H v d) xs ds → Tds H xs ds
  | _, _, .nil => .nil
  | _, _, .cons a b => .cons a (tds_of b)
theorem tds_get {H : Hp} : ∀ {xs : List V} {ds : List PyData}, Tds H xs ds → ∀ {i : Nat} {x : V}, xs[i]? = some x → ∃ d, ds[i]? = some d ∧ Td H x d
  | _, _, .nil, i, x, h => by simp at h
  | _, _, .cons a b, 0, x, h => by
    simp at h
    subst h
    exact ⟨_, by simp, a⟩
  | _, _, .cons a b, i + 1, x, h => by
    obtain ⟨d, h1, h2⟩ := tds_get b (i := i) (by simpa using h)
    exact ⟨d, by simpa using h1, h2⟩
theorem g_slMid {K : PySem.W.Frag} {H : Hp} {Q : VK} {p : Addr} {xs : List V} {n m : Int} (hn : 0 ≤ n) (hm : 0 ≤ m) (h : SqL K H p xs) (q : ∀ a, Fr H a → Q (.ref a) (upd H a (.lst ((xs.take m.toNat).drop n.toNat)))) : rSlL K (.ref p) (some n) (some m) H Q := g_slL h fun a ha => by
  rw [cut_mid hn hm]; exact q a ha
/-- a value's truth (the hand layer's own word is an abbreviation) -/
def tTru (K : PySem.W.Frag) (ta : TE) : TT := fun σ H Q => ta σ H fun x H1 => ∃ k, TruV K x H1 k ∧ Q k H1
def rTru (K : PySem.W.Frag) (x : V) (H : Hp) (Q : Bool → Hp → Prop) : Prop := ∃ k, TruV K x H k ∧ Q k H
theorem g_tru {K : PySem.W.Frag} {ta : TE} {σ : L2.St} {H : Hp} {Q : Bool → Hp → Prop} (h : ta σ H fun x H1 => rTru K x H1 Q) : tTru K ta σ H Q := h
theorem g_truB {K : PySem.W.Frag} {b : Bool} {H : Hp} {Q : Bool → Hp → Prop} (q : Q b H) : rTru K (.bl b) H Q := ⟨b, rfl, q⟩
/-- x is True, x is False -/
def rIsB : R2 := fun x y H Q => ∃ b c, x = .bl b ∧ y = .bl c ∧ Q (.bl (decide (b = c))) H
theorem g_tellsZ {K : PySem.W.Frag} {F : List Addr} {rs : List RuleD} {z : Str} {w : Wd} {day : Int} {v : V} {H : Hp} {Q : VK} {E : XK} (c : CFR K) (cb : CFB K) (b : BookAt K H F v rs) (ez : wordOf z = some w) (q : ∀ x H', Same H H' → Td H' x (tellsD rs w day) → Q x H') : sp_Book_tells_of K (v :: ([.str z, .int day] ++ [])) H Q E := by
  rw [wordOf_some ez]
  exact g_tells_of c cb b q
theorem wd_price : wordOf ("price" : Str) = some .price := wordOf_word .price
theorem wd_come : wordOf ("come" : Str) = some .come := wordOf_word .come
theorem wd_go : wordOf ("go" : Str) = some .go := wordOf_word .go
theorem wd_least : wordOf ("least" : Str) = some .least := wordOf_word .least
theorem wd_most : wordOf ("most" : Str) = some .most := wordOf_word .most
theorem wd_deal : wordOf ("deal" : Str) = some .deal := wordOf_word .deal
theorem wd_fee : wordOf ("fee" : Str) = some .fee := wordOf_word .fee
theorem usual_fit (w : Wd) : fitsD w (usualD w) = true := by cases w <;> rfl
theorem tells_fits {rs : List RuleD} (g : ∀ r ∈ rs, RuleD.good r) (w : Wd) (day : Int) : fitsD w (tellsD rs w day) = true := by
  rcases tells_mem rs w day with e | ⟨r, h, hw, -, -, e⟩
  · rw [e]; exact usual_fit w
  · rw [e, ← hw]; exact (g r h).2.2.2
theorem isBool_b {d : PyData} (h : isBool d = true) : ∃ b, d = .bool b := by
  cases d with
  | bool b => exact ⟨b, rfl⟩
  | _ => cases h
/-- what is told of a word is of its kind -/
theorem td_bool {H : Hp} {x : V} {d : PyData} (h : Td H x d) (f : isBool d = true) : ∃ b, x = .bl b ∧ d = .bool b := by
  obtain ⟨b, rfl⟩ := isBool_b f
  cases h
  exact ⟨b, rfl, rfl⟩
theorem td_night {H : Hp} {x : V} {d : PyData} (h : Td H x d) (f : isNights d = true) : ∃ i, x = .int i ∧ d = .int i ∧ 1 ≤ i ∧ i ≤ 14 := by
  obtain ⟨i, rfl, h0, h1⟩ := isNights_b f
  cases h
  exact ⟨i, rfl, rfl, h0, h1⟩
theorem td_coin {H : Hp} {x : V} {d : PyData} (h : Td H x d) (f : isCoins d = true) : ∃ i, x = .int i ∧ d = .int i ∧ 0 ≤ i ∧ i ≤ 1000000000000 := by
  obtain ⟨i, rfl, h0, h1⟩ := isCoins_b f
  cases h
  exact ⟨i, rfl, rfl, h0, h1⟩
theorem td_price {H : Hp} {x : V} {d : PyData} (h : Td H x d) (f : fitsD .price d = true) : (x = .non ∧ d = .none) ∨ ∃ i, x = .int i ∧ d = .int i ∧ 0 ≤ i ∧ i ≤ 1000000000000 := by
  rcases Bool.or_eq_true_iff.mp (show (isNone d || isCoins d) = true from f) with g | g
  · left
    cases d <;> first | (cases h; exact ⟨rfl, rfl⟩) | cases g
  · exact .inr (td_coin h g)
/-- the worths of a book, by word -/
def comeB (rs : List RuleD) (w : Wd) (day : Int) : Bool := match tellsD rs w day with | .bool b => b | _ => true
def numI (rs : List RuleD) (w : Wd) (day : Int) : Int := match tellsD rs w day with | .int i => i | _ => 0
theorem come_b {rs : List RuleD} (g : ∀ r ∈ rs, RuleD.good r) {w : Wd} (hw : w = .come ∨ w = .go) {day : Int} {H : Hp} {x : V} (h : Td H x (tellsD rs w day)) : x = .bl (comeB rs w day) := by
  have f := tells_fits g w day
  obtain ⟨b, rfl, e⟩ := td_bool h (by rcases hw with rfl | rfl <;> exact f)
  unfold comeB
  rw [e]
theorem num_n {rs : List RuleD} (g : ∀ r ∈ rs, RuleD.good r) {w : Wd} (hw : w = .least ∨ w = .most) {day : Int} {H : Hp} {x : V} (h : Td H x (tellsD rs w day)) : x = .int (numI rs w day) ∧ 1 ≤ numI rs w day ∧ numI rs w day ≤ 14 := by
  have f := tells_fits g w day
  obtain ⟨b, rfl, e, h0, h1⟩ := td_night h (by rcases hw with rfl | rfl <;> exact f)
  unfold numI
  rw [e]
  exact ⟨rfl, h0, h1⟩
theorem num_f {rs : List RuleD} (g : ∀ r ∈ rs, RuleD.good r) {day : Int} {H : Hp} {x : V} (h : Td H x (tellsD rs .fee day)) : x = .int (numI rs .fee day) ∧ 0 ≤ numI rs .fee day ∧ numI rs .fee day ≤ 1000000000000 := by
  have f := tells_fits g .fee day
  obtain ⟨b, rfl, e, h0, h1⟩ := td_coin h f
  unfold numI
  rw [e]
  exact ⟨rfl, h0, h1⟩
def soldB (rs : List RuleD) (day : Int) : Bool := !isNone (tellsD rs .price day)
theorem price_v {rs : List RuleD} (g : ∀ r ∈ rs, RuleD.good r) {day : Int} {H : Hp} {x : V} (h : Td H x (tellsD rs .price day)) : (soldB rs day = false ∧ x = .non) ∨ (soldB rs day = true ∧ x = .int (numI rs .price day) ∧ 0 ≤ numI rs .price day ∧ numI rs .price day ≤ 1000000000000) := by
  have f := tells_fits g .price day
  rcases td_price h f with ⟨rfl, e⟩ | ⟨i, rfl, e, h0, h1⟩
  · left
    unfold soldB
    rw [e]
    exact ⟨rfl, rfl⟩
  · right
    unfold soldB numI
    rw [e]
    exact ⟨rfl, rfl, h0, h1⟩
/-! YBk: books that stand somewhere, days from one to another. -/
open PySem PySem.Spec PyProof.Rows L2
theorem days_mem {c g n : Int} (h : n ∈ days c g) : c ≤ n ∧ n < g := by
  unfold days at h
  obtain ⟨i, hi, rfl⟩ := List.mem_map.mp h
  have := List.mem_range.mp hi
  omega
theorem mem_days {c g n : Int} : n ∈ days c g ↔ c ≤ n ∧ n < g := by
  refine ⟨days_mem, fun h => ?_⟩
  unfold days
  exact List.mem_map.mpr ⟨(n - c).toNat, List.mem_range.mpr (by omega), by omega⟩
/-- a book stands at v -/
def BkAt (K : PySem.W.Frag) (H : Hp) (v : V) (rs : List RuleD) : Prop := ∃ F, BookAt K H F v rs
theorem BkAt.same {K : PySem.W.Frag} {H H' : Hp} {v : V} {rs : List RuleD} (s : Same H H') (h : BkAt K H v rs) : BkAt K H' v rs := let ⟨F, b⟩ := h; ⟨F, bk_same s b⟩
def GoodB (bs : List (List RuleD)) : Prop := ∀ rs ∈ bs, ∀ r ∈ rs, RuleD.good r
def StayB (c g : Int) : Prop := 0 ≤ c ∧ c < g ∧ g ≤ c + 14 ∧ g ≤ 1000000
theorem while_m {c : TT} {tb : TS} {D : Ends} {σ : L2.St} {H : Hp} (W : Nat → L2.St → Hp → Prop) {m0 : Nat} (h0 : W m0 σ H)
    (hs : ∀ m σ H, W m σ H → c σ H fun b H1 => if b = true then tb { D with nx := fun σ' H' => ∃ m', m' < m ∧ W m' σ' H', ct := fun σ' H' => ∃ m', m' < m ∧ W m' σ' H', bk := D.nx } σ H1 else D.nx σ H1)
    (mono : ∀ σ H Q Q', (∀ b H1, Q b H1 → Q' b H1) → c σ H Q → c σ H Q') : tWhile c tb D σ H := by
  refine ⟨W, ⟨m0, h0⟩, fun m σ H w => ?_⟩
  refine mono σ H _ _ (fun b H1 q => ?_) (hs m σ H w)
  cases b with
  | true => exact ⟨_, fun _ _ h => h, q⟩
  | false => exact q
/-! YBa: what bars a stay. -/
open PySem PySem.Spec PyProof.Rows L2
def nightsL (rs : List RuleD) (c g : Int) : List (Wd × Int) := (days c g).filterMap fun n => if soldB rs n then none else some (Wd.price, n)
def bars1 (rs : List RuleD) (c g : Int) : List (Wd × Int) := nightsL rs c g ++ if comeB rs .come c then [] else [(.come, c)]
def bars2 (rs : List RuleD) (c g : Int) : List (Wd × Int) := bars1 rs c g ++ if comeB rs .go g then [] else [(.go, g)]
def bars3 (rs : List RuleD) (c g : Int) : List (Wd × Int) := bars2 rs c g ++ if g - c < numI rs .least c then [(.least, c)] else []
def barsL (rs : List RuleD) (c g : Int) : List (Wd × Int) := bars3 rs c g ++ if g - c > numI rs .most c then [(.most, c)] else []
def barD (p : Wd × Int) : PyData := .tuple [.str p.1.word, .int p.2]
theorem nights_map (rs : List RuleD) (c g : Int) : (nightsL rs c g).map barD = (days c g).filterMap fun n => if soldB rs n then none else some (barD (.price, n)) := by
  unfold nightsL
  rw [List.map_filterMap]
  congr 1
  funext n
  by_cases h : soldB rs n = true
  · rw [if_pos h, if_pos h]; rfl
  · rw [if_neg h, if_neg h]; rfl
theorem len_opt {α : Type} (a : α) (b : Prop) [Decidable b] : (if b then [a] else []).length ≤ 1 := by by_cases e : b <;> simp [e]
theorem len_opt' {α : Type} (a : α) (b : Prop) [Decidable b] : (if b then [] else [a]).length ≤ 1 := by by_cases e : b <;> simp [e]
theorem nights_len (rs : List RuleD) (c g : Int) : (nightsL rs c g).length ≤ (g - c).toNat := by
  unfold nightsL
  exact Nat.le_trans (List.length_filterMap_le ..) (by rw [days_len]; exact Nat.le_refl _)
theorem bars_len (rs : List RuleD) (c g : Int) : (barsL rs c g).length ≤ (g - c).toNat + 4 := by
  unfold barsL bars3 bars2 bars1
  simp only [List.length_append]
  have := nights_len rs c g
  have := len_opt' (Wd.come, c) (comeB rs .come c = true)
  have := len_opt' (Wd.go, g) (comeB rs .go g = true)
  have := len_opt (Wd.least, c) (g - c < numI rs .least c)
  have := len_opt (Wd.most, c) (g - c > numI rs .most c)
  omega
def QBar (rs : List RuleD) (c g : Int) (H : Hp) (Q : VK) : Prop := ∀ (p : Addr) (xs : List V) (H' : Hp), Same H H' → Fr H p → H' p = some (.lst xs) → Tds H' xs ((barsL rs c g).map barD) → Q (.ref p) H'
def sp_bars (K : PySem.W.Frag) : Sp := Sp2 fun v y H Q E => CFR K ∧ CFB K ∧ ∃ (F : List Addr) (rs : List RuleD) (a : Addr) (c g : Int), y = .ref a ∧ BookAt K H F v rs ∧ (∀ r ∈ rs, RuleD.good r) ∧ SqT K H a [.int c, .int g] ∧ (c - 1000 ≤ g ∧ g ≤ c + 1000 ∧ -10000000 ≤ c ∧ c ≤ 10000000) ∧ QBar rs c g H Q
theorem g_bars {K : PySem.W.Frag} {F : List Addr} {rs : List RuleD} {a : Addr} {c g : Int} {v : V} {H : Hp} {Q : VK} {E : XK} (cf : CFR K) (cb : CFB K) (h : BookAt K H F v rs) (gd : ∀ r ∈ rs, RuleD.good r) (s : SqT K H a [.int c, .int g]) (b : c - 1000 ≤ g ∧ g ≤ c + 1000 ∧ -10000000 ≤ c ∧ c ≤ 10000000)
    (q : ∀ (p : Addr) (xs : List V) (H' : Hp), Same H H' → Fr H p → H' p = some (.lst xs) → Tds H' xs ((barsL rs c g).map barD) → Q (.ref p) H') : sp_bars K ([v, .ref a] ++ []) H Q E := ⟨_, _, rfl, cf, cb, F, rs, a, c, g, rfl, h, gd, s, b, q⟩
def t_bars (K : PySem.W.Frag) : TS :=
  (tSeq (tAsg (tVar 1) (gTup K 2 (gCons (gName 2) (gCons (gName 3) gNil))))
  (tSeq (tAsg (tLc (iList K (tCall (sp_nights_of K) [] E0 (tCons (tVar 1) tNil))) (gName 5) (tTest (tOp rIsN (tMeth (He.ga K "Book") "tells_of" (sp_Book_tells_of K) [] E0 (tVar 0) (tCons (tC (.str "price")) (tCons (tVar 5) tNil))) (tC .non))) (tTup (tCons (tC (.str "price")) (tCons (tVar 5) tNil))) [5]) (gName 4))
  (tSeq (tIfS (tNot (Y.tTru K (tMeth (He.ga K "Book") "tells_of" (sp_Book_tells_of K) [] E0 (tVar 0) (tCons (tC (.str "come")) (tCons (tVar 2) tNil)))))
  (tDrop (tBM K "list" rAppend (tVar 4) (tCons (tTup (tCons (tC (.str "come")) (tCons (tVar 2) tNil))) tNil)))
  tNext)
  (tSeq (tIfS (tNot (Y.tTru K (tMeth (He.ga K "Book") "tells_of" (sp_Book_tells_of K) [] E0 (tVar 0) (tCons (tC (.str "go")) (tCons (tVar 3) tNil)))))
  (tDrop (tBM K "list" rAppend (tVar 4) (tCons (tTup (tCons (tC (.str "go")) (tCons (tVar 3) tNil))) tNil)))
  tNext)
  (tSeq (tIfS (tTest (tOp rLt (tOp rSub (tVar 3) (tVar 2)) (tMeth (He.ga K "Book") "tells_of" (sp_Book_tells_of K) [] E0 (tVar 0) (tCons (tC (.str "least")) (tCons (tVar 2) tNil)))))
  (tDrop (tBM K "list" rAppend (tVar 4) (tCons (tTup (tCons (tC (.str "least")) (tCons (tVar 2) tNil))) tNil)))
  tNext)
  (tSeq (tIfS (tTest (tOp rGt (tOp rSub (tVar 3) (tVar 2)) (tMeth (He.ga K "Book") "tells_of" (sp_Book_tells_of K) [] E0 (tVar 0) (tCons (tC (.str "most")) (tCons (tVar 2) tNil)))))
  (tDrop (tBM K "list" rAppend (tVar 4) (tCons (tTup (tCons (tC (.str "most")) (tCons (tVar 2) tNil))) tNil)))
  tNext)
  (tRet (tVar 4))))))))
theorem pure_bars {K : PySem.W.Frag} {v y : V} {H : Hp} {Q : VK} {E : XK} (h : sp_bars K [v, y] H Q E) : t_bars K { nx := fun _ H' => Q .non H', rt := Q } [some v, some y, none, none, none, none] H := by
  obtain ⟨v, y, e, cf, cb, F, rs, a, c, g, rfl, B, gd, hS, hb, q⟩ := h
  cases e
  unfold t_bars
  walk_at "ss"
  rename_i np H1 s1 f1 h1
  have B1 : BookAt K H1 F v rs := by walk_at "bk"
  have hl : ((days c g).map V.int).length < 100000 := by rw [List.length_map, days_len]; omega
  refine lc_r (walk_list (K := K) (a := np) (xs := (days c g).map V.int)) (fun G v d => Td G v d) (fun _ _ _ _ k h => h.tk k) (fun i => ((days c g)[i]?).bind fun n => if soldB rs n then none else some (barD (.price, n))) hl (fun H' s => SqL.of (s _ _ h1)) ?_ ?_
  · rintro D i x H2 H3 N hD hi s2 ⟨rfl, hx⟩ hy hn
    obtain ⟨n, rfl, hn'⟩ := map_get hx
    have B2 : BookAt K H3 F v rs := by walk_at "bk"
    walk_at "ss"
    rename_i x H4 s4 hx4
    have hf : ((days c g)[i]?).bind (fun n => if soldB rs n = true then none else some (barD (.price, n))) = if soldB rs n = true then none else some (barD (.price, n)) := by rw [hn']; rfl
    rcases price_v gd hx4 with ⟨e, rfl⟩ | ⟨e, rfl, -, -⟩
    · rw [if_neg (by rw [e]; decide)] at hf
      walk_at "ss"
      refine ite_dt rfl ?_
      walk_at "ss"
      rename_i T hT
      exact hy _ _ _ hf (by walk_at "sm") (.tup upd_same (.cons (.str _) (.cons (.int _) .nil)))
    · rw [if_pos e] at hf
      walk_at "ss"
      exact hn _ hf (by walk_at "sm")
  · intro D H2 ys hD s2 h2 hp
    have hpt : Tds H2 ys ((nightsL rs c g).map barD) := by
      rw [nights_map]
      have := range_flt (days c g) (fun n => if soldB rs n = true then none else some (barD (.price, n)))
      rw [← this]
      rw [List.length_map] at hp
      exact tds_of hp
    have fD : Fr H D := fr_of hD s1
    have S2 : Same H H2 := by walk_at "sm"
    have bl := bars_len rs c g
    have bl4 : (bars3 rs c g).length ≤ (barsL rs c g).length := by unfold barsL; rw [List.length_append]; omega
    have bl3 : (bars2 rs c g).length ≤ (bars3 rs c g).length := by unfold bars3; rw [List.length_append]; omega
    have bl2 : (bars1 rs c g).length ≤ (bars2 rs c g).length := by unfold bars2; rw [List.length_append]; omega
    have bl1 : (nightsL rs c g).length ≤ (bars1 rs c g).length := by unfold bars1; rw [List.length_append]; omega
    clear hp h1 f1 s1 B1 hD s2
    walk_at "ss"
    with_reducible refine jn (P := fun σ H' => σ = [some v, some (.ref a), some (.int c), some (.int g), some (.ref D), none] ∧ Same H H' ∧ ∃ xs, H' D = some (.lst xs) ∧ Tds H' xs ((bars1 rs c g).map barD)) ?_ fun N hN => ?_
    · clear hpt h2 S2
      rintro σ H2 ⟨rfl, S2, ys, h2, hpt⟩
      with_reducible refine jn (P := fun σ H' => σ = [some v, some (.ref a), some (.int c), some (.int g), some (.ref D), none] ∧ Same H H' ∧ ∃ xs, H' D = some (.lst xs) ∧ Tds H' xs ((bars2 rs c g).map barD)) ?_ fun N hN => ?_
      · clear hpt h2 S2
        rintro σ H2 ⟨rfl, S2, ys, h2, hpt⟩
        with_reducible refine jn (P := fun σ H' => σ = [some v, some (.ref a), some (.int c), some (.int g), some (.ref D), none] ∧ Same H H' ∧ ∃ xs, H' D = some (.lst xs) ∧ Tds H' xs ((bars3 rs c g).map barD)) ?_ fun N hN => ?_
        · clear hpt h2 S2
          rintro σ H2 ⟨rfl, S2, ys, h2, hpt⟩
          with_reducible refine jn (P := fun σ H' => σ = [some v, some (.ref a), some (.int c), some (.int g), some (.ref D), none] ∧ Same H H' ∧ ∃ xs, H' D = some (.lst xs) ∧ Tds H' xs ((barsL rs c g).map barD)) ?_ fun N hN => ?_
          · clear hpt h2 S2
            rintro σ H2 ⟨rfl, S2, ys, h2, hpt⟩
            walk_at "ss"
            exact q D ys H2 S2 fD h2 hpt
          · have l1 := tds_len hpt
            rw [List.length_map] at l1
            walk_at "ss"
            rename_i x H3 s3 hx3
            obtain ⟨rfl, -, -⟩ := num_n gd (.inr rfl) hx3
            walk_at "ss"
            refine ite_b (fun z => ?_) fun z => ?_
            · walk_at "ss"
              rename_i T hT
              refine hN _ _ ⟨rfl, by walk_at "sm", _, upd_same, ?_⟩
              have e : barsL rs c g = bars3 rs c g ++ [(Wd.most, c)] := by unfold barsL; rw [if_pos (of_decide_eq_true z)]
              rw [e, List.map_append]
              have hDT : (upd H3 T (.tup [.str Wd.most.word, .int c])) D = some (.lst ys) := at_new hT (s3 _ _ h2)
              exact tds_snoc (tds_put hDT (tds_new hT (tds_same s3 hpt))) (.tup (at_ne (ne_of_none (s3 _ _ h2) hT).symm upd_same) (.cons (.str _) (.cons (.int _) .nil)))
            · walk_at "ss"
              refine hN _ _ ⟨rfl, by walk_at "sm", _, s3 _ _ h2, ?_⟩
              have e : barsL rs c g = bars3 rs c g := by unfold barsL; rw [if_neg (of_decide_eq_false z), List.append_nil]
              rw [e]
              exact tds_same s3 hpt
        · have l1 := tds_len hpt
          rw [List.length_map] at l1
          walk_at "ss"
          rename_i x H3 s3 hx3
          obtain ⟨rfl, -, -⟩ := num_n gd (.inl rfl) hx3
          walk_at "ss"
          refine ite_b (fun z => ?_) fun z => ?_
          · walk_at "ss"
            rename_i T hT
            refine hN _ _ ⟨rfl, by walk_at "sm", _, upd_same, ?_⟩
            have e : bars3 rs c g = bars2 rs c g ++ [(Wd.least, c)] := by unfold bars3; rw [if_pos (of_decide_eq_true z)]
            rw [e, List.map_append]
            have hDT : (upd H3 T (.tup [.str Wd.least.word, .int c])) D = some (.lst ys) := at_new hT (s3 _ _ h2)
            exact tds_snoc (tds_put hDT (tds_new hT (tds_same s3 hpt))) (.tup (at_ne (ne_of_none (s3 _ _ h2) hT).symm upd_same) (.cons (.str _) (.cons (.int _) .nil)))
          · walk_at "ss"
            refine hN _ _ ⟨rfl, by walk_at "sm", _, s3 _ _ h2, ?_⟩
            have e : bars3 rs c g = bars2 rs c g := by unfold bars3; rw [if_neg (of_decide_eq_false z), List.append_nil]
            rw [e]
            exact tds_same s3 hpt
      · have l1 := tds_len hpt
        rw [List.length_map] at l1
        walk_at "ss"
        rename_i x H3 s3 hx3
        obtain rfl := come_b gd (.inr rfl) hx3
        walk_at "ss"
        refine ite_b (fun z => ?_) fun z => ?_
        · walk_at "ss"
          rename_i T hT
          refine hN _ _ ⟨rfl, by walk_at "sm", _, upd_same, ?_⟩
          have e : bars2 rs c g = bars1 rs c g ++ [(Wd.go, g)] := by unfold bars2; rw [if_neg (by simpa using z)]
          rw [e, List.map_append]
          have hDT : (upd H3 T (.tup [.str Wd.go.word, .int g])) D = some (.lst ys) := at_new hT (s3 _ _ h2)
          exact tds_snoc (tds_put hDT (tds_new hT (tds_same s3 hpt))) (.tup (at_ne (ne_of_none (s3 _ _ h2) hT).symm upd_same) (.cons (.str _) (.cons (.int _) .nil)))
        · walk_at "ss"
          refine hN _ _ ⟨rfl, by walk_at "sm", _, s3 _ _ h2, ?_⟩
          have e : bars2 rs c g = bars1 rs c g := by unfold bars2; rw [if_pos (by simpa using z), List.append_nil]
          rw [e]
          exact tds_same s3 hpt
    · have l1 := tds_len hpt
      rw [List.length_map] at l1
      walk_at "ss"
      rename_i x H3 s3 hx3
      obtain rfl := come_b gd (.inl rfl) hx3
      walk_at "ss"
      refine ite_b (fun z => ?_) fun z => ?_
      · walk_at "ss"
        rename_i T hT
        refine hN _ _ ⟨rfl, by walk_at "sm", _, upd_same, ?_⟩
        have e : bars1 rs c g = nightsL rs c g ++ [(Wd.come, c)] := by unfold bars1; rw [if_neg (by simpa using z)]
        rw [e, List.map_append]
        have hDT : (upd H3 T (.tup [.str Wd.come.word, .int c])) D = some (.lst ys) := at_new hT (s3 _ _ h2)
        exact tds_snoc (tds_put hDT (tds_new hT (tds_same s3 hpt))) (.tup (at_ne (ne_of_none (s3 _ _ h2) hT).symm upd_same) (.cons (.str _) (.cons (.int _) .nil)))
      · walk_at "ss"
        refine hN _ _ ⟨rfl, by walk_at "sm", _, s3 _ _ h2, ?_⟩
        have e : bars1 rs c g = nightsL rs c g := by unfold bars1; rw [if_pos (by simpa using z), List.append_nil]
        rw [e]
        exact tds_same s3 hpt
/-! YBi: bills of stays whose nights are sold. -/
open PySem PySem.Spec PyProof.Rows L2
theorem fm_map {α β : Type} (f : α → β) (l : List α) : l.filterMap (fun x => some (f x)) = l.map f := by
  induction l with
  | nil => rfl
  | cons a l ih => simp [ih]
def pricesL (rs : List RuleD) (c g : Int) : List Int := (days c g).map fun n => numI rs .price n
def dealO (rs : List RuleD) (c : Int) : Option (Int × Int) := match tellsD rs .deal c with | .tuple [.int m, .int f] => some (m, f) | _ => none
def marksL (rs : List RuleD) (c g : Int) : List Bool := mkO (pricesL rs c g) (dealO rs c)
def rowOf (rs : List RuleD) (c g : Int) (i : Nat) : Int × Int × Bool := ((days c g).getD i 0, (pricesL rs c g).getD i 0, (marksL rs c g).getD i false)
def rowsL (rs : List RuleD) (c g : Int) : List (Int × Int × Bool) := (List.range (days c g).length).map (rowOf rs c g)
def rowD (r : Int × Int × Bool) : PyData := .tuple [.int r.1, .int r.2.1, .bool r.2.2]
def paidL (rs : List RuleD) (c g : Int) : List Int := (rowsL rs c g).filterMap fun r => if r.2.2 then none else some r.2.1
def sumD (rs : List RuleD) (c g : Int) : Int := numI rs .fee c + (paidL rs c g).sum
theorem prices_len (rs : List RuleD) (c g : Int) : (pricesL rs c g).length = (days c g).length := by unfold pricesL; rw [List.length_map]
theorem marks_len (rs : List RuleD) (c g : Int) : (marksL rs c g).length = (days c g).length := by unfold marksL; rw [mkO_len, prices_len]
theorem rows_len (rs : List RuleD) (c g : Int) : (rowsL rs c g).length = (days c g).length := by unfold rowsL; rw [List.length_map, List.length_range]
theorem td_two {H : Hp} {x : V} {m f : Int} (h : Td H x (.tuple [.int m, .int f])) : PrAt H x (m, f) := by
  cases h with
  | tup h r =>
    cases r with
    | cons a r =>
      cases r with
      | cons b r =>
        cases r
        cases a
        cases b
        exact ⟨_, rfl, h⟩
theorem td_row {H : Hp} {x : V} {r : Int × Int × Bool} (h : Td H x (rowD r)) : ∃ q, x = .ref q ∧ H q = some (.tup [.int r.1, .int r.2.1, .bl r.2.2]) := by
  unfold rowD at h
  cases h with
  | tup h r =>
    cases r with
    | cons a r =>
      cases r with
      | cons b r =>
        cases r with
        | cons d r =>
          cases r
          cases a
          cases b
          cases d
          exact ⟨_, rfl, h⟩
theorem deal_at {rs : List RuleD} (gd : ∀ r ∈ rs, RuleD.good r) {c : Int} {H : Hp} {x : V} (h : Td H x (tellsD rs .deal c)) : DealAt H x (dealO rs c) := by
  have f := tells_fits gd .deal c
  unfold dealO
  rcases isDeal_ex f with e | ⟨m, f', e, m0, m1, f0, f1⟩
  · rw [e] at h ⊢
    cases h
    exact rfl
  · rw [e] at h ⊢
    exact ⟨td_two h, by show 0 < m; omega, by show m ≤ 1000; omega, by show 0 ≤ f'; omega⟩
theorem no_none (ns : List Int) : inV .non (ns.map V.int) = false := by
  unfold inV
  rw [List.any_eq_false]
  intro x hx
  obtain ⟨i, -, rfl⟩ := List.mem_map.mp hx
  intro h
  cases h
theorem ints_flat (ns : List Int) : (ns.map V.int).all flatV = true := by
  rw [List.all_eq_true]
  intro x hx
  obtain ⟨i, -, rfl⟩ := List.mem_map.mp hx
  rfl
theorem at_ints {ns : List Int} {i : Nat} (h : i < ns.length) : atI (ns.map V.int) (0 + (i : Int)) = some (.int (ns.getD i 0)) := by
  have e : atI ns (0 + (i : Int)) = some (ns.getD i 0) := by
    unfold atI
    rw [ix_nat (by omega) h]
    simp [h]
  exact atI_map e
theorem at_bls {ns : List Bool} {i : Nat} (h : i < ns.length) : atI (ns.map V.bl) (0 + (i : Int)) = some (.bl (ns.getD i false)) := by
  have e : atI ns (0 + (i : Int)) = some (ns.getD i false) := by
    unfold atI
    rw [ix_nat (by omega) h]
    simp [h]
  unfold atI at e ⊢
  rw [List.length_map]
  cases hk : ixN ns.length (0 + (i : Int)) with
  | none => rw [hk] at e; cases e
  | some k =>
    rw [hk] at e
    show (ns.map V.bl)[k]? = _
    rw [List.getElem?_map, show ns[k]? = some (ns.getD i false) from e]
    rfl
def SoldAll (rs : List RuleD) (c g : Int) : Prop := ∀ n ∈ days c g, soldB rs n = true
def QBill (rs : List RuleD) (c g : Int) (H : Hp) (Q : VK) : Prop := ∀ (p q : Addr) (xs : List V) (H' : Hp), Same H H' → Fr H p → Fr H q → H' p = some (.tup [.int (sumD rs c g), .ref q, .int (numI rs .fee c)]) → H' q = some (.lst xs) → Tds H' xs ((rowsL rs c g).map rowD) → Q (.ref p) H'
def sp_bill (K : PySem.W.Frag) : Sp := Sp2 fun v y H Q E => CFR K ∧ CFB K ∧ ∃ (F : List Addr) (rs : List RuleD) (a : Addr) (c g : Int), y = .ref a ∧ BookAt K H F v rs ∧ (∀ r ∈ rs, RuleD.good r) ∧ SqT K H a [.int c, .int g] ∧ (c ≤ g ∧ g ≤ c + 900 ∧ -10000000 ≤ c ∧ c ≤ 10000000) ∧ SoldAll rs c g ∧ QBill rs c g H Q
theorem g_bill {K : PySem.W.Frag} {F : List Addr} {rs : List RuleD} {a : Addr} {c g : Int} {v : V} {H : Hp} {Q : VK} {E : XK} (cf : CFR K) (cb : CFB K) (h : BookAt K H F v rs) (gd : ∀ r ∈ rs, RuleD.good r) (s : SqT K H a [.int c, .int g]) (b : c ≤ g ∧ g ≤ c + 900 ∧ -10000000 ≤ c ∧ c ≤ 10000000) (so : SoldAll rs c g)
    (q : ∀ (p q : Addr) (xs : List V) (H' : Hp), Same H H' → Fr H p → Fr H q → H' p = some (.tup [.int (sumD rs c g), .ref q, .int (numI rs .fee c)]) → H' q = some (.lst xs) → Tds H' xs ((rowsL rs c g).map rowD) → Q (.ref p) H') : sp_bill K ([v, .ref a] ++ []) H Q E := ⟨_, _, rfl, cf, cb, F, rs, a, c, g, rfl, h, gd, s, b, so, q⟩
theorem g_sum {K : PySem.W.Frag} {H : Hp} {Q : VK} {p : Addr} {ns : List Int} (h : SqL K H p (ns.map V.int)) (q : Q (.int ns.sum) H) : rSum K [.ref p] H Q := ⟨p, ns, rfl, h, q⟩
def t_bill (K : PySem.W.Frag) : TS :=
  (tSeq (tAsg (tCall (sp_nights_of K) [] E0 (tCons (tVar 1) tNil)) (gName 2))
  (tSeq (tAsg (tLc (iList K (tVar 2)) (gName 7) tYes (tMeth (He.ga K "Book") "tells_of" (sp_Book_tells_of K) [] E0 (tVar 0) (tCons (tC (.str "price")) (tCons (tVar 7) tNil))) [7]) (gName 3))
  (tSeq (tIfS (tTest (tOp (rIn K false) (tC .non) (tVar 3)))
  tNever
  tNext)
  (tSeq (tAsg (tCall (sp_marked K) [] E0 (tCons (tVar 3) (tCons (tMeth (He.ga K "Book") "tells_of" (sp_Book_tells_of K) [] E0 (tVar 0) (tCons (tC (.str "deal")) (tCons (tOp (rIxT K) (tVar 1) (tC (.int 0))) tNil))) tNil))) (gName 4))
  (tSeq (tAsg (tMeth (He.ga K "Book") "tells_of" (sp_Book_tells_of K) [] E0 (tVar 0) (tCons (tC (.str "fee")) (tCons (tOp (rIxT K) (tVar 1) (tC (.int 0))) tNil))) (gName 5))
  (tSeq (tAsg (tLc (iRng1 (tCons (tCB (rLen K) (tCons (tVar 2) tNil)) tNil)) (gName 8) tYes (tTup (tCons (tOp (rIxL K) (tVar 2) (tVar 8)) (tCons (tOp (rIxL K) (tVar 3) (tVar 8)) (tCons (tOp (rIxL K) (tVar 4) (tVar 8)) tNil)))) [8]) (gName 6))
  (tRet (tTup (tCons (tOp rAdd (tVar 5) (tCB (rSum K) (tCons (tLc (iList K (tVar 6)) (gTup K 3 (gCons (gName 7) (gCons (gName 9) (gCons (gName 10) gNil)))) (tNot (tB (tVar 10))) (tVar 9) [7, 9, 10]) tNil))) (tCons (tVar 6) (tCons (tVar 5) tNil)))))))))))
theorem pure_bill {K : PySem.W.Frag} {v y : V} {H : Hp} {Q : VK} {E : XK} (h : sp_bill K [v, y] H Q E) : t_bill K { nx := fun _ H' => Q .non H', rt := Q } [some v, some y, none, none, none, none, none, none, none, none, none] H := by
  obtain ⟨v, y, e, cf, cb, F, rs, a, c, g, rfl, B, gd, hS, ⟨b0, b1, b2, b3⟩, so, q⟩ := h
  cases e
  unfold t_bill
  walk_at "ss"
  rename_i np H1 s1 f1 h1
  have B1 : BookAt K H1 F v rs := by walk_at "bk"
  have dl := days_len c g
  have hml : (List.map V.int (days c g)).length = (g - c).toNat := by rw [List.length_map]; exact dl
  refine lc_w (f := fun i => ((days c g)[i]?).bind fun n => some (V.int (numI rs .price n))) (walk_list (K := K) (a := np) (xs := (days c g).map V.int)) (by rw [List.length_map]; omega) (fun H' s => SqL.of (s _ _ h1)) ?_ ?_
  · rintro D i x H2 H3 N hD hi s2 ⟨rfl, hx⟩ hy hn
    obtain ⟨n, rfl, hn'⟩ := map_get hx
    have B2 : BookAt K H3 F v rs := by walk_at "bk"
    walk_at "ss"
    rename_i x H4 s4 hx4
    rcases price_v gd hx4 with ⟨e, rfl⟩ | ⟨e, rfl, -, -⟩
    · rw [so n (List.mem_of_getElem? hn')] at e
      cases e
    · exact hy _ _ (by rw [hn']; rfl) (by walk_at "sm")
  intro D H2 hD s2 h2
  have e2 : (List.range ((days c g).map V.int).length).filterMap (fun i => ((days c g)[i]?).bind fun n => some (V.int (numI rs .price n))) = (pricesL rs c g).map V.int := by
    rw [List.length_map, range_flt (days c g) (fun n => some (V.int (numI rs .price n))), fm_map]
    unfold pricesL
    rw [List.map_map]
    rfl
  rw [e2] at h2
  have pl := prices_len rs c g
  have ml := marks_len rs c g
  walk_at "ss"
  with_reducible refine g_seq ?_
  walk_at "ss"
  refine ⟨D, _, rfl, .inl (SqL.of h2), rfl, ints_flat _, ?_⟩
  rw [no_none]
  rw [if_neg (by decide)]
  walk_at "ss"
  rename_i xd H3 s3 hxd
  refine g_marked (dealO rs c) (by walk_at "sq") (by rw [pl]; omega) (deal_at gd hxd) fun l H4 s4 f4 h4 => ?_
  walk_at "ss"
  rename_i xf H5 s5 hxf
  obtain ⟨rfl, fe0, fe1⟩ := num_f gd hxf
  have hn5 : H5 np = some (.lst ((days c g).map V.int)) := by walk_at "at"
  have hp5 : H5 D = some (.lst ((pricesL rs c g).map V.int)) := by walk_at "at"
  have hm5 : H5 l = some (.lst ((marksL rs c g).map V.bl)) := s5 _ _ h4
  refine lc_r walk_range (fun G v d => Td G v d) (fun _ _ _ _ k h => h.tk k) (fun i => some (rowD (rowOf rs c g i))) (by rw [List.length_map]; omega) (fun _ _ => trivial) ?_ ?_
  · rintro D2 i x H6 H7 N hD2 hi s6 ⟨rfl, rfl⟩ hy -
    rw [List.length_map] at hi
    have a1 := at_ints (ns := days c g) (i := i) (by omega)
    have a2 := at_ints (ns := pricesL rs c g) (i := i) (by omega)
    have a3 := at_bls (ns := marksL rs c g) (i := i) (by omega)
    walk_at "ss"
    rename_i T hT
    exact hy _ _ _ rfl (by walk_at "sm") (.tup upd_same (.cons (.int _) (.cons (.int _) (.cons (.bl _) .nil))))
  intro D2 H6 ys hD2 s6 h6 hp6
  have e6 : (List.range ((days c g).map V.int).length).filterMap (fun i => some (rowD (rowOf rs c g i))) = (rowsL rs c g).map rowD := by
    rw [List.length_map, fm_map]
    unfold rowsL
    rw [List.map_map]
    rfl
  rw [Int.toNat_natCast, e6] at hp6
  have yl : ys.length = (rowsL rs c g).length := by rw [Paired.length hp6, List.length_map]
  have rl := rows_len rs c g
  have S6 : Same H H6 := by walk_at "sm"
  have fD2 : Fr H D2 := fr_of hD2 (by walk_at "sm")
  walk_at "ss"
  refine lc_w (f := fun i => ((rowsL rs c g)[i]?).bind fun r => (if r.2.2 then none else some r.2.1).map V.int) (walk_list (K := K) (a := D2) (xs := ys)) (by omega) (fun H' s => SqL.of (s _ _ h6)) ?_ ?_
  · rintro D3 i x H7 H8 N hD3 hi s7 ⟨rfl, hx⟩ hy hn
    obtain ⟨d, hd, hxd'⟩ := Paired.getL hp6 hx
    rw [List.getElem?_map] at hd
    cases hr : (rowsL rs c g)[i]? with
    | none => rw [hr] at hd; cases hd
    | some r =>
      rw [hr] at hd
      obtain rfl : rowD r = d := Option.some.inj hd
      obtain ⟨tq, rfl, htq⟩ := td_row (hxd'.tk (Same.tk s7))
      rw [hr] at hy hn
      walk_at "ss"
      cases hb : r.2.2 with
      | false =>
        rw [if_pos (by rfl)]
        walk_at "ss"
        exact hy _ _ (by simp [hb]) (Same.refl _)
      | true =>
        rw [if_neg (by decide)]
        exact hn _ (by simp [hb]) (Same.refl _)
  intro D3 H7 hD3 s7 h7
  have e7 : (List.range ys.length).filterMap (fun i => ((rowsL rs c g)[i]?).bind fun r => (if r.2.2 then none else some r.2.1).map V.int) = (paidL rs c g).map V.int := by
    rw [yl, range_flt (rowsL rs c g) (fun r => (if r.2.2 then none else some r.2.1).map V.int)]
    unfold paidL
    rw [List.map_filterMap]
  rw [e7] at h7
  walk_at "ss"
  refine g_sum (SqL.of h7) ?_
  walk_at "ss"
  rename_i p hp
  exact q p D2 ys _ (by walk_at "sm") (fr_of (fr_of hp s7) S6) fD2 upd_same (by walk_at "at") (tds_of (Paired.mapP hp6 fun _ _ z => z.tk (by exact (Same.tk s7).trans (tk_new hp))))
/-! YE: errors: raised, let out of defs, caught; the caught one is kept in the heap. -/
open PySem PySem.Spec PyProof.Rows L2
/-- an error that is kept at a: its class, its dict -/
def exK (a : Addr) (cls : Value) (d : Option Addr) : HO := .ext fun h => ∃ oe, h.get? a = some oe ∧ Zc cls d oe ∧ ∃ vs, oe.data = .fields vs
section
variable {P : Program} {w : World} {H : Hp} {h : Heap} {a : Addr} {cls : Value} {d : Option Addr}
end
section
variable {X : Cx} {pins : List (Addr × Obj)} {σ : L2.St} {H : Hp} {s : Shared} {a : Addr} {oe : Obj} {vs : Array Value} {cls : Value} {d : Option Addr}
end
/-- what the clause «except c as n» wishes of an error: n's slot is i; the error stays in the heap -/
def wKp (K : PySem.W.Frag) (c : Value) (i : Nat) (ts : TS) (Wout : WX) (D : Ends) : WX := fun cls d σ H =>
  ∃ b, PySem.W.exmOne K cls c = some b ∧
    (b = true → ∀ a, H a = none → ts { nx := fun τ H' => D.nx (τ.set i none) H', rt := D.rt, bk := fun τ H' => D.bk (τ.set i none) H', ct := fun τ H' => D.ct (τ.set i none) H' } (σ.set i (some (.ref a))) (upd H a (exK a cls d))) ∧
    (b = false → Wout cls d σ H)
/-- try: body / except c as n: suite -/
def tTryK (K : PySem.W.Frag) (c : Value) (i : Nat) (tb : WX → TS) (ts : TS) (Wout : WX) : TS := fun D σ H => tb (wKp K c i ts Wout D) D σ H
/-- try: body / except c: suite -/
def tTryO (K : PySem.W.Frag) (c : Value) (tb : WX → TS) (ts : TS) (Wout : WX) : TS := fun D σ H => tb (wOnly K c (fun _ _ _ => ts) Wout D) D σ H
section
variable {X : Cx} {x n : Str} {c : Value} {i : Nat} {body suite : List Stmt} {b₀ : Stmt} {np pos pos' : Pos} {tb : WX → TS} {ts : TS} {Wout : WX}
end

/-! ### what a kept error tells -/
/-- an error's class -/
structure ErrC (K : PySem.W.Frag) (x : Str) : Prop where
  ga : PySem.W.findIn K (.ref (He.ga K x)) "__getattribute__" = some (some (.builtin "BaseException.__getattribute__"))
  gg : PySem.W.findIn K (.ref (He.ga K x)) "__getattr__" = some none
  be : PySem.W.subIn K (.ref (He.ga K x)) (.type "BaseException") = some true
  hd : PySem.W.hasDictIn K (He.ga K x) = true
  ty : tyB K (He.ga K x) = true
  tt : PySem.W.typeIn K (.ref (He.ga K x)) = some (.type "type")
  kp : PySem.W.keepIn K (.ref (He.ga K x)) = true
  ic : PySem.W.isClsIn K (He.ga K x) = true
section
variable {K : PySem.W.Frag} {L : List Str} {x y : Str}
end
/-- at a: a kept error of the class x, its fields fs -/
def ExAt (K : PySem.W.Frag) (H : Hp) (a : Addr) (x : Str) (fs : List (Str × V)) : Prop := errB K x = true ∧
  ((fs = [] ∧ H a = some (exK a (.ref (He.ga K x)) none)) ∨ ∃ dd, H a = some (exK a (.ref (He.ga K x)) (some dd)) ∧ H dd = some (.xd fs))
/-- isinstance(e, c), e an error that is kept -/
def rIsK (K : PySem.W.Frag) : List V → Hp → VK → Prop := fun xs H Q => ∃ (a : Addr) (x : Str) (fs : List (Str × V)) (c : V) (cv : Value) (b : Bool), xs = [.ref a, c] ∧ ExAt K H a x fs ∧ (∀ u, RelV c u → u = cv) ∧
  PySem.W.kitOne K (.ref (He.ga K x)) cv = some b ∧ Q (.bl b) H
/-- e.f, e an error that is kept -/
def tXat (K : PySem.W.Frag) (te : TE) (f : Str) : TE := fun σ H Q => te σ H fun v H1 => ∃ (a : Addr) (x : Str) (fs : List (Str × V)) (y : V), v = .ref a ∧ ExAt K H1 a x fs ∧ PySem.W.findIn K (.ref (He.ga K x)) f = some none ∧ fs.lookup f = some y ∧ Q y H1
/-! ### what may let errors out -/
abbrev XW (E : XK) : WX := fun cls d _ H => E cls d H
section
variable {X : Cx} {CX : CXT} {k j : Nat} {f C : Addr} {fd : FuncData} {ps : List Str} {sp : Sp} {dvs : List V} {ds : List Value} {E : L2.St → XK} {W : WX} {x m : Str} {p pos apos : Pos} {e o : Expr} {es : List Expr} {ta : TE} {t : TA} {pins : List (Addr × Obj)} {σ : L2.St} {H : Hp} {s : Shared} {Q : VK} {us : List Value} {vs : List V}
/-- a call, a class that is made, a method, that may let an error out -/
def tCallX (sp : Sp) (dvs : List V) (W : WX) (t : TA) : TE := fun σ H Q => t σ H fun vs H1 => sp (vs ++ dvs) H1 Q (WE W σ)
def tMakeX (C : Addr) (sp : Sp) (dvs : List V) (W : WX) (t : TA) : TE := fun σ H Q => t σ H fun vs H1 => ∀ x dx, H1 x = none → H1 dx = none → dx ≠ x → sp (.ref x :: (vs ++ dvs)) (upd (upd H1 dx (.own x)) x (.ins C dx [])) (fun v H2 => v = .non ∧ Q (.ref x) H2) (WE W σ)
def tMethX (C : Addr) (m : Str) (sp : Sp) (dvs : List V) (W : WX) (ta : TE) (t : TA) : TE := fun σ H Q => ta σ H fun x H1 => ∃ a dx fs, x = .ref a ∧ H1 a = some (.ins C dx fs) ∧ fs.lookup m = none ∧ t σ H1 fun vs H2 => sp (.ref a :: (vs ++ dvs)) H2 Q (WE W σ)
/-- raise x('..'), x without own __init__ -/
def tRaiseB (K : PySem.W.Frag) (x : Str) (W : WX) : TS := fun _ σ H => exBare x K = true ∧ W (.ref (He.ga K x)) none σ H
end

/-! ### errors with an own __init__ -/
/-- StayError.__init__(self, ..) -/
def tStI (K : PySem.W.Frag) (ta : TA) : TE := fun σ H Q => exStay K = true ∧ ta σ H fun vs H1 => ∃ (a C : Addr) (ws : List V), vs = .ref a :: ws ∧ ws.length ≤ 1000 ∧ OexC K C ∧ H1 a = some (exo a C none) ∧ Q .non H1
section
variable {X : Cx} {W : WX} {p p1 p2 pos : Pos} {e : Expr} {es : List Expr} {ta : TA}
end
/-- what the __init__ of an error keeps: the field f -/
def sp_xinit (K : PySem.W.Frag) (x f : Str) : Sp := Sp2 fun v y H Q E => exInit x f K = true ∧ ∃ a, v = .ref a ∧ H a = some (exo a (He.ga K x) none) ∧ ∀ d, H d = none → d ≠ a → Q .non (upd (upd H d (exd d [(f, y)])) a (exo a (He.ga K x) (some d)))
def t_xinit (K : PySem.W.Frag) (f z : Str) : TS := tSeq (tDrop (tStI K (tCons (tVar 0) (tCons (tC (.str z)) tNil)))) (tOst K f (tVar 0) (tVar 1))
/-- the __init__ of an error's class -/
structure XIn (P : Program) (w : World) (K : PySem.W.Frag) (mg : Str → Option Value) (base : Heap) (k : Nat) (x f : Str) : Prop where
  ex : ∃ (fI : Addr) (fd : FuncData) (ps : List Str), FnOk P w K mg base CX0 k fI fd ps (sp_xinit K x f) ∧ mg x = some (.ref (He.ga K x)) ∧ Binds K fd ps [] ∧ PySem.W.findIn K (.ref (He.ga K x)) "__init__" = some (some (.ref fI)) ∧ PySem.W.typeIn K (.ref fI) = some (.type "function")
/-- raise x(e), x with its own __init__ -/
def rRaiseI (K : PySem.W.Frag) (x f : Str) (W : WX) (σ : L2.St) (y : V) (H1 : Hp) : Prop := [y].length ≤ 1000 ∧ ∀ a, H1 a = none → sp_xinit K x f (.ref a :: ([y] ++ [])) (upd H1 a (exo a (He.ga K x) none))
  (fun v H2 => v = .non ∧ ∃ (d : Addr) (fs : List (Str × V)), H2 a = some (exo a (He.ga K x) (some d)) ∧ H2 d = some (exd d fs) ∧ H1 d = none ∧ W (.ref (He.ga K x)) (some d) σ (upd (L2.del H2 a) d (.xd fs))) (fun _ _ _ => False)
def tRaiseI (K : PySem.W.Frag) (x f : Str) (W : WX) (te : TE) : TS := fun _ σ H => exInit x f K = true ∧ te σ H fun y H1 => rRaiseI K x f W σ y H1
section
variable {X : Cx} {W : WX} {k j : Nat} {x f : Str} {p pos pos' : Pos} {e : Expr} {te : TE}
end
/-! YBx: books of things that may be no rules, or too many. -/
open PySem PySem.Spec PyProof.Rows L2
/-- all are rules -/
def AllR (ds : List PyData) (rs : List RuleD) : Prop := ds.map asRule = rs.map some
def spx_Book_init (K : PySem.W.Frag) : Sp := Sp2 fun v y H Q E => CFR K ∧ CFB K ∧ exInit "NoRule" "number" K = true ∧ exBare "TooMany" K = true ∧ ∃ (a dx : Addr) (xs : List V) (ds : List PyData), v = .ref a ∧ H a = some (.ins (He.ga K "Book") dx []) ∧
  ((y = .non ∧ xs = []) ∨ ∃ p, y = .ref p ∧ SqL K H p xs) ∧ Paired (At H [a]) xs ds ∧ ds.length ≤ 1000 ∧
  (∀ i d dd H', ds[i]? = some d → asRule d = none → (∃ rs, AllR (ds.take i) rs) → Kp [a] H H' → H' dd = some (.xd [("number", .int (i : Nat))]) → E (.ref (He.ga K "NoRule")) (some dd) H') ∧
  (∀ rs H', AllR ds rs → 24 < rs.length → Kp [a] H H' → E (.ref (He.ga K "TooMany")) none H') ∧
  ∀ rs H' F, AllR ds rs → rs.length ≤ 24 → Kp [a] H H' → BookAt K H' F v rs → (∀ p ∈ F, Fr H p) → Q .non H'
def x_Book_init (K : PySem.W.Frag) (E : XK) : TS :=
  (tSeq (tAsg (tLst tNil) (gName 2))
  (tSeq (tIfS (tTest (tOp rNotN (tVar 1) (tC .non)))
  (tAsg (tCB (rListOf K) (tCons (tVar 1) tNil)) (gName 2))
  tNext)
  (tSeq (sFld K (tVar 0) (tLst tNil) "kept")
  (tSeq (sFld K (tVar 0) tDNewK "newest")
  (tSeq (tFor (iEnum K (tCons (tVar 2) tNil)) (gTup K 2 (gCons (gName 3) (gCons (gName 4) gNil)))
  (tSeq (tAsg (tCall (sp_rule_of K) [] E0 (tCons (tVar 4) tNil)) (gName 5))
  (tSeq (tIfS (tTest (tOp rIsN (tVar 5) (tC .non)))
  (tRaiseI K "NoRule" "number" (XW E) (tVar 3))
  tNext)
  (tSeq (tDrop (tBM K "list" rAppend (tFld K (tVar 0) "kept") (tCons (tVar 5) tNil)))
  (tDrop (tBM K "list" rInsert (tDSetd (tFld K (tVar 0) "newest") (tRule K "word" (sp_word K) (tVar 5) tNil) (tLst tNil)) (tCons (tC (.int 0)) (tCons (tVar 5) tNil))))))))
  (tIfS (tTest (tOp rGt (tCB (rLen K) (tCons (tVar 2) tNil)) (tC (.int 24))))
  (tRaiseB K "TooMany" (XW E))
  tNext))))))
/-! YLd: books laid over books. -/
open PySem PySem.Spec PyProof.Rows L2
def sp_laid (K : PySem.W.Frag) : Sp := Sp2 fun v u H Q E => CFR K ∧ CFB K ∧ ∃ F1 r1 F2 r2, BookAt K H F1 v r1 ∧ BookAt K H F2 u r2 ∧ r1.length + r2.length ≤ 24 ∧ (∀ r ∈ r1, RuleD.good r) ∧ (∀ r ∈ r2, RuleD.good r) ∧
  ∀ x F H', Same H H' → BookAt K H' F x (r1 ++ r2) → (∀ p ∈ F, Fr H p) → Q x H'
theorem g_laid {K : PySem.W.Frag} {F1 F2 : List Addr} {r1 r2 : List RuleD} {v u : V} {H : Hp} {Q : VK} {E : XK} (c : CFR K) (cb : CFB K) (b1 : BookAt K H F1 v r1) (b2 : BookAt K H F2 u r2) (l : r1.length + r2.length ≤ 24) (g1 : ∀ r ∈ r1, RuleD.good r) (g2 : ∀ r ∈ r2, RuleD.good r)
    (q : ∀ x F H', Same H H' → BookAt K H' F x (r1 ++ r2) → (∀ p ∈ F, Fr H p) → Q x H') : sp_laid K ([v, u] ++ []) H Q E := ⟨_, _, rfl, c, cb, F1, r1, F2, r2, b1, b2, l, g1, g2, q⟩
def t_laid (K : PySem.W.Frag) : TS :=
  (tRet (tMake (He.ga K "Book") (sp_Book_init K) [] E0 (tCons (tOp rCat (tMeth (He.ga K "Book") "rules" (sp_Book_rules K) [] E0 (tVar 0) tNil) (tMeth (He.ga K "Book") "rules" (sp_Book_rules K) [] E0 (tVar 1) tNil)) tNil)))
theorem pure_laid {K : PySem.W.Frag} {v u : V} {H : Hp} {Q : VK} {E : XK} (h : sp_laid K [v, u] H Q E) : t_laid K { nx := fun _ H' => Q .non H', rt := Q } [some v, some u] H := by
  obtain ⟨v, u, e, c, cb, F1, r1, F2, r2, b1, b2, l, g1, g2, q⟩ := h
  cases e
  unfold t_laid
  walk_at "ss"
  rename_i p1 H1 y1 s1 f1 a1 R1 p2 H2 y2 s2 f2 a2 R2
  have l1 := ru_len R1
  have l2 := ru_len R2
  walk_at "ss"
  rename_i p3 hp3
  refine g_mkBook c cb rfl (.inr ⟨p3, rfl, SqL.of upd_same⟩) (ru_app (ru_new hp3 (ru_same s2 R1)) (ru_new hp3 R2)) (by rw [List.length_append]; omega) (gd_app g1 g2) fun x F H3 s3 bk ff => ?_
  walk_at "ss"
  exact q x F H3 (by walk_at "sm") bk fun p hp => fr_of (ff p hp) (by walk_at "sm")
/-! YLx: books made, laid, of which some are refused: what the callers see. -/
open PySem PySem.Spec PyProof.Rows L2
/-- e.f of a kept error -/
def rXat (K : PySem.W.Frag) (f : Str) (v : V) (H1 : Hp) (Q : VK) : Prop := ∃ (a : Addr) (x : Str) (fs : List (Str × V)) (y : V), v = .ref a ∧ ExAt K H1 a x fs ∧ PySem.W.findIn K (.ref (He.ga K x)) f = some none ∧ fs.lookup f = some y ∧ Q y H1
def spx_laid (K : PySem.W.Frag) : Sp := Sp2 fun v u H Q E => CFR K ∧ CFB K ∧ exInit "NoRule" "number" K = true ∧ exBare "TooMany" K = true ∧ ∃ F1 r1 F2 r2, BookAt K H F1 v r1 ∧ BookAt K H F2 u r2 ∧ r1.length ≤ 24 ∧ r2.length ≤ 24 ∧ (∀ r ∈ r1, RuleD.good r) ∧ (∀ r ∈ r2, RuleD.good r) ∧
  (24 < r1.length + r2.length → ∀ H', Same H H' → E (.ref (He.ga K "TooMany")) none H') ∧
  (r1.length + r2.length ≤ 24 → ∀ x F H', Same H H' → BookAt K H' F x (r1 ++ r2) → (∀ p ∈ F, Fr H p) → Q x H')
def x_laid (K : PySem.W.Frag) (E : XK) : TS :=
  (tRet (tMakeX (He.ga K "Book") (spx_Book_init K) [] (XW E) (tCons (tOp rCat (tMeth (He.ga K "Book") "rules" (sp_Book_rules K) [] E0 (tVar 0) tNil) (tMeth (He.ga K "Book") "rules" (sp_Book_rules K) [] E0 (tVar 1) tNil)) tNil)))
/-! YCo: whether a stay can be had, what it costs. -/
open PySem PySem.Spec PyProof.Rows L2
def hadB (rs : List RuleD) (c g : Int) : Bool := decide (numI rs .least c ≤ g - c) && (decide (g - c ≤ numI rs .most c) && (comeB rs .come c && (comeB rs .go g && (days c g).all (soldB rs))))
def coinO (rs : List RuleD) (c g : Int) : Option Int := if hadB rs c g then some (sumD rs c g) else none
theorem had_sold {rs : List RuleD} {c g : Int} (h : hadB rs c g = true) : SoldAll rs c g := fun n hn => by
  unfold hadB at h
  simp only [Bool.and_eq_true] at h
  exact List.all_eq_true.mp h.2.2.2.2 n hn
def BkOk (K : PySem.W.Frag) (H : Hp) (v y : V) (rs : List RuleD) (c g : Int) : Prop := ∃ (F : List Addr) (a : Addr), y = .ref a ∧ BookAt K H F v rs ∧ (∀ r ∈ rs, RuleD.good r) ∧ SqT K H a [.int c, .int g] ∧ (c ≤ g ∧ g ≤ c + 900 ∧ -10000000 ≤ c ∧ c ≤ 10000000)
def sp_can_be_had (K : PySem.W.Frag) : Sp := Sp2 fun v y H Q E => CFR K ∧ CFB K ∧ ∃ rs c g, BkOk K H v y rs c g ∧ ∀ H', Same H H' → Q (.bl (hadB rs c g)) H'
def sp_coins_of (K : PySem.W.Frag) : Sp := Sp2 fun v y H Q E => CFR K ∧ CFB K ∧ ∃ rs c g, BkOk K H v y rs c g ∧ ∀ H', Same H H' → Q (if hadB rs c g then .int (sumD rs c g) else .non) H'
def spx_cost (K : PySem.W.Frag) : Sp := Sp2 fun v y H Q E => CFR K ∧ CFB K ∧ exInit "Barred" "bars" K = true ∧ ∃ rs c g, BkOk K H v y rs c g ∧ (hadB rs c g = true → ∀ H', Same H H' → Q (.int (sumD rs c g)) H') ∧
  (hadB rs c g = false → ∀ (p dd : Addr) (xs : List V) (H' : Hp), Same H H' → Fr H p → H' p = some (.lst xs) → Tds H' xs ((barsL rs c g).map barD) → H' dd = some (.xd [("bars", .ref p)]) → E (.ref (He.ga K "Barred")) (some dd) H')
theorem g_can {K : PySem.W.Frag} {F : List Addr} {rs : List RuleD} {a : Addr} {c g : Int} {v : V} {H : Hp} {Q : VK} {E : XK} (cf : CFR K) (cb : CFB K) (h : BookAt K H F v rs) (gd : ∀ r ∈ rs, RuleD.good r) (s : SqT K H a [.int c, .int g]) (b : c ≤ g ∧ g ≤ c + 900 ∧ -10000000 ≤ c ∧ c ≤ 10000000)
    (q : ∀ H', Same H H' → Q (.bl (hadB rs c g)) H') : sp_can_be_had K ([v, .ref a] ++ []) H Q E := ⟨_, _, rfl, cf, cb, rs, c, g, ⟨F, a, rfl, h, gd, s, b⟩, q⟩
theorem g_coins {K : PySem.W.Frag} {F : List Addr} {rs : List RuleD} {a : Addr} {c g : Int} {v : V} {H : Hp} {Q : VK} {E : XK} (cf : CFR K) (cb : CFB K) (h : BookAt K H F v rs) (gd : ∀ r ∈ rs, RuleD.good r) (s : SqT K H a [.int c, .int g]) (b : c ≤ g ∧ g ≤ c + 900 ∧ -10000000 ≤ c ∧ c ≤ 10000000)
    (q : ∀ H', Same H H' → Q (if hadB rs c g then .int (sumD rs c g) else .non) H') : sp_coins_of K ([v, .ref a] ++ []) H Q E := ⟨_, _, rfl, cf, cb, rs, c, g, ⟨F, a, rfl, h, gd, s, b⟩, q⟩
def t_can_be_had (K : PySem.W.Frag) : TS :=
  (tSeq (tAsg (tVar 1) (gTup K 2 (gCons (gName 2) (gCons (gName 3) gNil))))
  (tSeq (tIfS (tNot (tTest (tChain rLe rLe (tMeth (He.ga K "Book") "tells_of" (sp_Book_tells_of K) [] E0 (tVar 0) (tCons (tC (.str "least")) (tCons (tVar 2) tNil))) (tOp rSub (tVar 3) (tVar 2)) (tMeth (He.ga K "Book") "tells_of" (sp_Book_tells_of K) [] E0 (tVar 0) (tCons (tC (.str "most")) (tCons (tVar 2) tNil))))))
  (tRet (tC (.bl false)))
  tNext)
  (tSeq (tIfS (tOr (tNot (Y.tTru K (tMeth (He.ga K "Book") "tells_of" (sp_Book_tells_of K) [] E0 (tVar 0) (tCons (tC (.str "come")) (tCons (tVar 2) tNil))))) (tNot (Y.tTru K (tMeth (He.ga K "Book") "tells_of" (sp_Book_tells_of K) [] E0 (tVar 0) (tCons (tC (.str "go")) (tCons (tVar 3) tNil))))))
  (tRet (tC (.bl false)))
  tNext)
  (tSeq (tFor (iList K (tCall (sp_nights_of K) [] E0 (tCons (tVar 1) tNil))) (gName 4)
  (tIfS (tTest (tOp rIsN (tMeth (He.ga K "Book") "tells_of" (sp_Book_tells_of K) [] E0 (tVar 0) (tCons (tC (.str "price")) (tCons (tVar 4) tNil))) (tC .non)))
  (tRet (tC (.bl false)))
  tNext))
  (tRet (tC (.bl true)))))))
theorem pure_can_be_had {K : PySem.W.Frag} {v y : V} {H : Hp} {Q : VK} {E : XK} (h : sp_can_be_had K [v, y] H Q E) : t_can_be_had K { nx := fun _ H' => Q .non H', rt := Q } [some v, some y, none, none, none] H := by
  obtain ⟨v, y, e, cf, cb, rs, c, g, ⟨F, a, rfl, B, gd, hS, ⟨b0, b1, b2, b3⟩⟩, q⟩ := h
  cases e
  unfold t_can_be_had
  walk_at "ss"
  rename_i x1 H1 s1 hx1
  obtain ⟨rfl, l0, l1⟩ := num_n gd (.inl rfl) hx1
  have B1 := bk_same s1 B
  have S1 := Same.seqT s1 hS
  have hq : ∀ {b : Bool} {H' : Hp}, hadB rs c g = b → Same H H' → Q (.bl b) H' := fun e s => by
    rw [← e]
    exact q _ s
  walk_at "ss"
  have no : ∀ {H' : Hp}, (numI rs .least c ≤ g - c → g - c ≤ numI rs .most c → comeB rs .come c = true → comeB rs .go g = true → (days c g).all (soldB rs) = false) → Same H H' → Q (.bl false) H' := fun h s => hq (by
    unfold hadB
    by_cases h1 : numI rs .least c ≤ g - c
    · rw [decide_eq_true h1, Bool.true_and]
      by_cases h2 : g - c ≤ numI rs .most c
      · rw [decide_eq_true h2, Bool.true_and]
        cases h3 : comeB rs .come c with
        | false => rfl
        | true =>
          cases h4 : comeB rs .go g with
          | false => rfl
          | true => rw [h h1 h2 h3 h4]; rfl
      · rw [decide_eq_false h2]; rfl
    · rw [decide_eq_false h1]; rfl) s
  refine ite_b (fun z1 => ?_) fun z1 => ?_
  · walk_at "ss"
    rename_i x2 H2 s2 hx2
    obtain ⟨rfl, m0, m1⟩ := num_n gd (.inr rfl) hx2
    have B2 := bk_same s2 B1
    have z1' := of_decide_eq_true z1
    walk_at "ss"
    refine ite_nd (fun z2 => ?_) fun z2 => ?_
    · walk_at "ss"
      rename_i x3 H3 s3 hx3
      obtain rfl := come_b gd (.inl rfl) hx3
      have B3 := bk_same s3 B2
      walk_at "ss"
      cases z3 : comeB rs .come c with
      | false =>
        refine ite_nf ?_
        walk_at "ss"
        exact no (fun _ _ h _ => by rw [z3] at h; cases h) (by walk_at "sm")
      | true =>
        refine ite_nt ?_
        walk_at "ss"
        rename_i x4 H4 s4 hx4
        obtain rfl := come_b gd (.inr rfl) hx4
        have B4 := bk_same s4 B3
        walk_at "ss"
        cases z4 : comeB rs .go g with
        | false =>
          refine ite_nf ?_
          walk_at "ss"
          exact no (fun _ _ _ h => by rw [z4] at h; cases h) (by walk_at "sm")
        | true =>
          refine ite_nt ?_
          have SS : Same H H4 := by walk_at "sm"
          have S4 : SqT K H4 a [.int c, .int g] := Same.seqT SS hS
          clear s1 s2 s3 s4 hx1 hx2 hx3 hx4 B1 B2 B3 S1
          walk_at "ss"
          rename_i np H5 s5 f5 h5
          have B5 := bk_same s5 B4
          refine for_list (K := K) (a := np) (xs := (days c g).map V.int) (fun i σ H' => ∃ v4, σ = [some v, some (.ref a), some (.int c), some (.int g), v4] ∧ Same H5 H' ∧ ∀ n ∈ (days c g).take i, soldB rs n = true)
            ⟨_, rfl, Same.refl _, by simp⟩ (fun i σ H' _ h => by obtain ⟨_, _, h, _⟩ := h; exact SqL.of (h _ _ h5)) ?_ ?_
          · rintro i x σ H' hi ⟨v4, rfl, sm, hs⟩
            obtain ⟨n, rfl, hn⟩ := map_get hi
            have B6 := bk_same sm B5
            walk_at "ss"
            rename_i x6 H6 s6 hx6
            rcases price_v gd hx6 with ⟨e, rfl⟩ | ⟨e, rfl, -, -⟩
            · walk_at "ss"
              refine ite_dt rfl ?_
              walk_at "ss"
              refine no (fun _ _ _ _ => ?_) (by walk_at "sm")
              rw [List.all_eq_false]
              exact ⟨n, List.mem_of_getElem? hn, by rw [e]; decide⟩
            · walk_at "ss"
              refine ite_df (by simp) ?_
              walk_at "ss"
              refine ⟨_, rfl, by walk_at "sm", fun m hm => ?_⟩
              rw [List.take_add_one, hn] at hm
              rcases List.mem_append.mp hm with hm | hm
              · exact hs m hm
              · simp at hm
                rw [hm]
                exact e
          · rintro σ H' ⟨v4, rfl, sm, hs⟩
            walk_at "ss"
            rw [List.take_of_length_le (by rw [List.length_map]; exact Nat.le_refl _)] at hs
            refine hq ?_ (by walk_at "sm")
            unfold hadB
            rw [decide_eq_true z1', decide_eq_true z2, z3, z4, List.all_eq_true.mpr hs]
            rfl
    · walk_at "ss"
      exact no (fun _ h _ _ => absurd h z2) (by walk_at "sm")
  · walk_at "ss"
    exact no (fun h _ _ _ => absurd h (of_decide_eq_false z1)) (by walk_at "sm")
def t_coins_of (K : PySem.W.Frag) : TS :=
  (tSeq (tIfS (tNot (tB (tCall (sp_can_be_had K) [] E0 (tCons (tVar 0) (tCons (tVar 1) tNil)))))
  (tRet (tC .non))
  tNext)
  (tRet (tOp (rIxT K) (tCall (sp_bill K) [] E0 (tCons (tVar 0) (tCons (tVar 1) tNil))) (tC (.int 0)))))
theorem pure_coins_of {K : PySem.W.Frag} {v y : V} {H : Hp} {Q : VK} {E : XK} (h : sp_coins_of K [v, y] H Q E) : t_coins_of K { nx := fun _ H' => Q .non H', rt := Q } [some v, some y] H := by
  obtain ⟨v, y, e, cf, cb, rs, c, g, ⟨F, a, rfl, B, gd, hS, ⟨b0, b1, b2, b3⟩⟩, q⟩ := h
  cases e
  unfold t_coins_of
  walk_at "ss"
  refine g_can cf cb B gd hS ⟨b0, b1, b2, b3⟩ fun H1 s1 => ?_
  have B1 := bk_same s1 B
  have S1 := Same.seqT s1 hS
  walk_at "ss"
  cases hh : hadB rs c g with
  | false =>
    refine ite_nf ?_
    walk_at "ss"
    have := q H1 s1
    rw [hh] at this
    exact this
  | true =>
    refine ite_nt ?_
    walk_at "ss"
    refine g_bill cf cb B1 gd S1 ⟨b0, b1, b2, b3⟩ (had_sold hh) fun p z xs H2 s2 _ _ h1 _ _ => ?_
    walk_at "ss"
    have := q H2 (s1.trans s2)
    rw [hh] at this
    exact this
def x_cost (K : PySem.W.Frag) (E : XK) : TS :=
  (tSeq (tAsg (tCall (sp_coins_of K) [] E0 (tCons (tVar 0) (tCons (tVar 1) tNil))) (gName 2))
  (tSeq (tIfS (tTest (tOp rIsN (tVar 2) (tC .non)))
  (tRaiseI K "Barred" "bars" (XW E) (tCall (sp_bars K) [] E0 (tCons (tVar 0) (tCons (tVar 1) tNil))))
  tNext)
  (tRet (tVar 2))))
/-! YBp: the best of a stay, plainly: what the program reckons, and that it is a cut of least cost with its paper, or days that no part leads out of. -/
open PySem PySem.Spec PyProof.Rows L2
abbrev Pt := Int × Int × Int
abbrev We := Int × Option Pt
abbrev Wf := Int → Option We
def partsRow (k : Int) (rs : List RuleD) (d g : Int) : List (Int × Pt) := (days (d + 1) (g + 1)).filterMap fun e => (coinO rs d e).map fun c => (c, (d, e, k))
def partsAll (d g : Int) : Int → List (List RuleD) → List (Int × Pt)
  | _, [] => []
  | k, rs :: r => partsRow k rs d g ++ partsAll d g (k + 1) r
theorem partsAll_snoc (d g : Int) : ∀ (k : Int) (bs : List (List RuleD)) (rs : List RuleD), partsAll d g k (bs ++ [rs]) = partsAll d g k bs ++ partsRow (k + (bs.length : Nat)) rs d g
  | k, [], rs => by simp [partsAll]
  | k, b :: bs, rs => by
    rw [List.cons_append, partsAll, partsAll, partsAll_snoc d g (k + 1) bs rs, List.append_assoc, List.length_cons]
    congr 2
    push_cast
    congr 1
    omega
theorem mem_partsRow {k : Int} {rs : List RuleD} {d g : Int} {x : Int × Pt} : x ∈ partsRow k rs d g ↔ x.2.1 = d ∧ x.2.2.2 = k ∧ d < x.2.2.1 ∧ x.2.2.1 ≤ g ∧ coinO rs d x.2.2.1 = some x.1 := by
  unfold partsRow
  rw [List.mem_filterMap]
  obtain ⟨c, b, e, k'⟩ := x
  constructor
  · rintro ⟨a, ha, h⟩
    have := mem_days.mp ha
    cases h2 : coinO rs d a with
    | none => rw [h2] at h; cases h
    | some z =>
      rw [h2] at h
      cases h
      exact ⟨rfl, rfl, by dsimp only; omega, by dsimp only; omega, h2⟩
  · rintro ⟨h1, h2, h3, h4, h5⟩
    dsimp only at h1 h2 h3 h4 h5
    subst h1 h2
    exact ⟨e, mem_days.mpr ⟨by omega, by omega⟩, by rw [h5]; rfl⟩
theorem mem_partsAll {d g : Int} {x : Int × Pt} : ∀ {k : Int} {bs : List (List RuleD)}, x ∈ partsAll d g k bs ↔ x.2.1 = d ∧ d < x.2.2.1 ∧ x.2.2.1 ≤ g ∧ ∃ (i : Nat) (rs : List RuleD), x.2.2.2 = k + i ∧ bs[i]? = some rs ∧ coinO rs d x.2.2.1 = some x.1
  | k, [] => by simp [partsAll]
  | k, rs :: r => by
    rw [partsAll, List.mem_append, mem_partsRow, mem_partsAll]
    constructor
    · rintro (⟨h1, h2, h3, h4, h5⟩ | ⟨h1, h2, h3, i, rs', h4, h5, h6⟩)
      · exact ⟨h1, h3, h4, 0, rs, by simpa using h2, rfl, h5⟩
      · exact ⟨h1, h2, h3, i + 1, rs', by push_cast; omega, h5, h6⟩
    · rintro ⟨h1, h2, h3, i, rs', h4, h5, h6⟩
      cases i with
      | zero =>
        simp at h5
        subst h5
        exact .inl ⟨h1, by simpa using h4, h2, h3, h6⟩
      | succ i => exact .inr ⟨h1, h2, h3, i, rs', by push_cast at h4; omega, by simpa using h5, h6⟩
def fset (f : Wf) (i : Int) (w : We) : Wf := fun j => if j = i then some w else f j
def relax (t : Int) (f : Wf) (x : Int × Pt) : Wf :=
  if (f x.2.2.1).isSome = false ∨ t + x.1 < ((f x.2.2.1).getD (0, none)).1 then fset f x.2.2.1 (t + x.1, some x.2) else f
def dayW (bs : List (List RuleD)) (g : Int) (f : Wf) (d : Int) : Wf := match f d with
  | none => f
  | some w => (partsAll d g 0 bs).foldl (relax w.1) f
def way0 (c : Int) : Wf := fun i => if i = c then some (0, none) else none
def waysF (bs : List (List RuleD)) (c g : Int) : Wf := (days c g).foldl (dayW bs g) (way0 c)
theorem relax_ne {t : Int} {f : Wf} {x : Int × Pt} {i : Int} (h : i ≠ x.2.2.1) : relax t f x i = f i := by
  unfold relax fset
  split
  · exact if_neg h
  · rfl
theorem relax_at {t : Int} {f : Wf} {x : Int × Pt} : (relax t f x x.2.2.1 = f x.2.2.1 ∨ relax t f x x.2.2.1 = some (t + x.1, some x.2)) ∧ ∃ w, relax t f x x.2.2.1 = some w ∧ w.1 ≤ t + x.1 ∧ ∀ v, f x.2.2.1 = some v → w.1 ≤ v.1 := by
  unfold relax fset
  cases h : f x.2.2.1 with
  | none => rw [if_pos (.inl rfl)]; simp
  | some v =>
    by_cases z : t + x.1 < v.1
    · rw [if_pos (.inr z)]
      refine ⟨.inr (if_pos rfl), _, if_pos rfl, Int.le_refl _, fun u hu => ?_⟩
      cases hu
      show t + x.1 ≤ v.1
      omega
    · rw [if_neg (by simp; omega)]
      exact ⟨.inl h, v, h, by omega, fun u hu => by cases hu; exact Int.le_refl _⟩
theorem fold_relax (t : Int) : ∀ (L : List (Int × Pt)) (f : Wf),
    (∀ i, L.foldl (relax t) f i = f i ∨ ∃ x ∈ L, x.2.2.1 = i ∧ L.foldl (relax t) f i = some (t + x.1, some x.2)) ∧
    (∀ i w, f i = some w → ∃ w', L.foldl (relax t) f i = some w' ∧ w'.1 ≤ w.1) ∧
    (∀ x ∈ L, ∃ w', L.foldl (relax t) f x.2.2.1 = some w' ∧ w'.1 ≤ t + x.1)
  | [], f => ⟨fun i => .inl rfl, fun i w h => ⟨w, h, Int.le_refl _⟩, fun x h => by cases h⟩
  | x :: L, f => by
    obtain ⟨a, b, c⟩ := fold_relax t L (relax t f x)
    obtain ⟨r1, w0, r2, r3, r4⟩ := relax_at (t := t) (f := f) (x := x)
    rw [List.foldl_cons]
    refine ⟨fun i => ?_, fun i w h => ?_, fun y hy => ?_⟩
    · rcases a i with h | ⟨y, hy, e, h⟩
      · by_cases z : i = x.2.2.1
        · subst z
          rw [h]
          rcases r1 with r1 | r1
          · exact .inl r1
          · exact .inr ⟨x, List.mem_cons_self, rfl, r1⟩
        · rw [h, relax_ne z]
          exact .inl rfl
      · exact .inr ⟨y, List.mem_cons_of_mem _ hy, e, h⟩
    · by_cases z : i = x.2.2.1
      · subst z
        obtain ⟨w', h1, h2⟩ := b _ _ r2
        exact ⟨w', h1, Int.le_trans h2 (r4 _ h)⟩
      · exact b i w (by rw [relax_ne z]; exact h)
    · rcases List.mem_cons.mp hy with rfl | hy
      · obtain ⟨w', h1, h2⟩ := b _ _ r2
        exact ⟨w', h1, Int.le_trans h2 r3⟩
      · exact c y hy
/-- what holds of the days that are told when the days ahead of n have been gone through -/
structure WI (bs : List (List RuleD)) (c g n : Int) (f : Wf) : Prop where
  start : f c = some (0, none)
  rng : ∀ i w, f i = some w → c ≤ i ∧ i ≤ g
  root : ∀ i t, f i = some (t, none) → i = c ∧ t = 0
  back : ∀ i t p, f i = some (t, some p) → p.2.1 = i ∧ c ≤ p.1 ∧ p.1 < i ∧ p.1 < n ∧ ∃ (u : We) (k : Nat) (rs : List RuleD) (x : Int), f p.1 = some u ∧ p.2.2 = k ∧ bs[k]? = some rs ∧ coinO rs p.1 i = some x ∧ t = u.1 + x
  closed : ∀ b w, b < n → f b = some w → ∀ (k : Nat) (rs : List RuleD) (e x : Int), bs[k]? = some rs → b < e → e ≤ g → coinO rs b e = some x → ∃ w', f e = some w' ∧ w'.1 ≤ w.1 + x
theorem WI.zero {bs : List (List RuleD)} {c g : Int} (h : c ≤ g) : WI bs c g c (way0 c) := by
  have e : ∀ i w, way0 c i = some w → i = c ∧ w = (0, none) := fun i w q => by
    unfold way0 at q
    by_cases z : i = c
    · rw [if_pos z] at q; cases q; exact ⟨z, rfl⟩
    · rw [if_neg z] at q; cases q
  refine ⟨if_pos rfl, fun i w q => ?_, fun i t q => ?_, fun i t p q => ?_, fun b w hb q => ?_⟩
  · have := e i w q; omega
  · obtain ⟨h1, h2⟩ := e i _ q
    cases h2
    exact ⟨h1, rfl⟩
  · obtain ⟨-, h2⟩ := e i _ q
    cases h2
  · have := e b w q; omega
theorem dayW_cases (bs : List (List RuleD)) (g : Int) (f : Wf) (d : Int) : (f d = none ∧ dayW bs g f d = f) ∨ ∃ w, f d = some w ∧ dayW bs g f d = (partsAll d g 0 bs).foldl (relax w.1) f := by
  unfold dayW
  cases h : f d with
  | none => exact .inl ⟨rfl, rfl⟩
  | some w => exact .inr ⟨w, rfl, rfl⟩
theorem dayW_stay {bs : List (List RuleD)} {g : Int} {f : Wf} {d i : Int} (h : i ≤ d) : dayW bs g f d i = f i := by
  rcases dayW_cases bs g f d with ⟨-, e⟩ | ⟨w, -, e⟩
  · rw [e]
  · rw [e]
    rcases (fold_relax w.1 (partsAll d g 0 bs) f).1 i with h1 | ⟨x, hx, h1, -⟩
    · exact h1
    · have := mem_partsAll.mp hx
      omega
theorem WI.step {bs : List (List RuleD)} {c g n : Int} {f : Wf} (h : WI bs c g n f) (hc : c ≤ n) (hn : n < g) : WI bs c g (n + 1) (dayW bs g f n) := by
  rcases dayW_cases bs g f n with ⟨z, e⟩ | ⟨w0, z, e⟩
  · rw [e]
    refine ⟨h.start, h.rng, h.root, fun i t p q => ?_, fun b w hb q => ?_⟩
    · obtain ⟨a1, a2, a3, a4, a5⟩ := h.back i t p q
      exact ⟨a1, a2, a3, by omega, a5⟩
    · by_cases y : b = n
      · rw [y, z] at q; cases q
      · exact h.closed b w (by omega) q
  · have st : ∀ i, i ≤ n → dayW bs g f n i = f i := fun i hi => dayW_stay hi
    obtain ⟨fa, fb, fc⟩ := fold_relax w0.1 (partsAll n g 0 bs) f
    rw [← e] at fa fb fc
    have kp : ∀ i u, f i = some u → ∃ w', dayW bs g f n i = some w' ∧ w'.1 ≤ u.1 := fb
    refine ⟨by rw [st c hc]; exact h.start, fun i w q => ?_, fun i t q => ?_, fun i t p q => ?_, fun b w hb q k rs e' x hk he hg hx => ?_⟩
    · rcases fa i with h1 | ⟨x, hx, h1, -⟩
      · rw [h1] at q; exact h.rng i w q
      · have := mem_partsAll.mp hx
        omega
    · rcases fa i with h1 | ⟨x, hx, h1, h2⟩
      · rw [h1] at q; exact h.root i t q
      · rw [h2] at q; cases q
    · rcases fa i with h1 | ⟨x, hx, h1, h2⟩
      · rw [h1] at q
        obtain ⟨a1, a2, a3, a4, u, k, rs, x, b1, b2, b3, b4, b5⟩ := h.back i t p q
        exact ⟨a1, a2, a3, by omega, u, k, rs, x, by rw [st _ (by omega)]; exact b1, b2, b3, b4, b5⟩
      · rw [h2] at q
        cases q
        obtain ⟨m1, m2, m3, k, rs, m4, m5, m6⟩ := mem_partsAll.mp hx
        subst h1
        exact ⟨rfl, by rw [m1]; exact hc, by rw [m1]; exact m2, by rw [m1]; omega, w0, k, rs, x.1, by rw [m1, st _ (Int.le_refl _)]; exact z, by omega, m5, by rw [m1]; exact m6, rfl⟩
    · rw [st b (by omega)] at q
      by_cases y : b = n
      · subst y
        rw [z] at q
        cases q
        obtain ⟨w', h1, h2⟩ := fc (x, (b, e', (k : Int))) (mem_partsAll.mpr ⟨rfl, he, hg, k, rs, by simp, hk, hx⟩)
        exact ⟨w', h1, h2⟩
      · obtain ⟨w', h1, h2⟩ := h.closed b w (by omega) q k rs e' x hk he hg hx
        obtain ⟨w'', h3, h4⟩ := kp e' w' h1
        exact ⟨w'', h3, by omega⟩
theorem fold_WI {bs : List (List RuleD)} {c g : Int} (h : c ≤ g) : ∀ n : Nat, c + (n : Int) ≤ g → WI bs c g (c + n) (((days c g).take n).foldl (dayW bs g) (way0 c))
  | 0, _ => by simpa using WI.zero (bs := bs) h
  | n + 1, hn => by
    have := fold_WI (bs := bs) h n (by push_cast at hn; omega)
    have e : (days c g)[n]? = some (c + (n : Int)) := days_get (by push_cast at hn; omega)
    rw [List.take_add_one, e, List.foldl_append]
    have := this.step (by omega) (by push_cast at hn; omega)
    show WI bs c g (c + ((n + 1 : Nat) : Int)) _
    rw [show c + ((n + 1 : Nat) : Int) = c + (n : Int) + 1 by push_cast; omega]
    exact this
theorem ways_WI (bs : List (List RuleD)) {c g : Int} (h : c ≤ g) : WI bs c g g (waysF bs c g) := by
  have := fold_WI (bs := bs) h (g - c).toNat (by omega)
  rw [List.take_of_length_le (by rw [days_len]; exact Nat.le_refl _), show c + (((g - c).toNat : Nat) : Int) = g by omega] at this
  exact this
/-- the parts of a way to a day -/
def cutF (f : Wf) : Nat → Int → List Pt
  | 0, _ => []
  | n + 1, d => match f d with
    | some (_, some p) => cutF f n p.1 ++ [p]
    | _ => []
def costF (f : Wf) (d : Int) : Int := ((f d).getD (0, none)).1
/-- parts one behind the other -/
def chain (P : Pt → Prop) : Int → Int → List Pt → Prop
  | a, b, [] => a = b
  | a, b, p :: r => p.1 = a ∧ P p ∧ chain P p.2.1 b r
theorem chain_snoc {P : Pt → Prop} {b : Int} {p : Pt} : ∀ {L : List Pt} {a : Int}, chain P a p.1 L → P p → p.2.1 = b → chain P a b (L ++ [p])
  | [], a, h, hp, e => ⟨h.symm, hp, e⟩
  | q :: L, a, h, hp, e => ⟨h.1, h.2.1, chain_snoc h.2.2 hp e⟩
/-- a part of the days c to g -/
def PtOk (bs : List (List RuleD)) (c g : Int) (p : Pt) : Prop := c ≤ p.1 ∧ p.1 < p.2.1 ∧ p.2.1 ≤ g ∧ ∃ (k : Nat) (rs : List RuleD), p.2.2 = k ∧ bs[k]? = some rs ∧ hadB rs p.1 p.2.1 = true
def ptCost (bs : List (List RuleD)) (p : Pt) : Int := match bs[p.2.2.toNat]? with
  | some rs => sumD rs p.1 p.2.1
  | none => 0
theorem coinO_had {rs : List RuleD} {c g x : Int} : coinO rs c g = some x ↔ hadB rs c g = true ∧ sumD rs c g = x := by
  unfold coinO
  by_cases z : hadB rs c g = true
  · rw [if_pos z]; simp [z]
  · rw [if_neg z]; simp [z]
theorem cutF_ok {bs : List (List RuleD)} {c g n : Int} {f : Wf} (h : WI bs c g n f) : ∀ (m : Nat) (d : Int) (w : We), d - c < m → f d = some w →
    chain (PtOk bs c g) c d (cutF f m d) ∧ ((cutF f m d).map (ptCost bs)).sum = w.1
  | 0, d, w, hm, hd => by have := h.rng d w hd; simp at hm; omega
  | m + 1, d, (t, none), hm, hd => by
    obtain ⟨rfl, rfl⟩ := h.root d t hd
    rw [cutF, hd]
    exact ⟨rfl, rfl⟩
  | m + 1, d, (t, some p), hm, hd => by
    obtain ⟨a1, a2, a3, a4, u, k, rs, x, b1, b2, b3, b4, b5⟩ := h.back d t p hd
    have r := h.rng d _ hd
    obtain ⟨c1, c2⟩ := cutF_ok h m p.1 u (by push_cast at hm; omega) b1
    rw [cutF, hd]
    obtain ⟨had, sm⟩ := coinO_had.mp b4
    have pk : PtOk bs c g p := ⟨a2, by omega, by omega, k, rs, b2, b3, by rw [a1]; exact had⟩
    refine ⟨chain_snoc c1 pk a1, ?_⟩
    rw [List.map_append, List.sum_append, c2]
    have : ptCost bs p = x := by
      unfold ptCost
      rw [b2, Int.toNat_natCast, b3, a1]
      exact sm
    rw [List.map_cons, List.map_nil, this]
    simp [b5]
def costsF (f : Wf) (c g : Int) : List Int := (days c (g + 1)).filterMap fun d => (f d).map (·.1)
def mostF (f : Wf) (c g : Int) : Int := (costsF f c g).foldl max 0
def heightF (f : Wf) (c g d : Int) : Int := match f d with | some w => w.1 | none => mostF f c g
def paperF (f : Wf) (c g : Int) : List Int := (days c g).map fun d => heightF f c g (d + 1) - heightF f c g d
def shutF (f : Wf) (c g : Int) : List Int := (days c (g + 1)).filter fun d => (f d).isSome
theorem max_le : ∀ (l : List Int) (a : Int), a ≤ l.foldl max a ∧ ∀ x ∈ l, x ≤ l.foldl max a
  | [], a => ⟨Int.le_refl _, fun x h => by cases h⟩
  | y :: l, a => by
    obtain ⟨h1, h2⟩ := max_le l (max a y)
    refine ⟨by rw [List.foldl_cons]; omega, fun x hx => ?_⟩
    rw [List.foldl_cons]
    rcases List.mem_cons.mp hx with rfl | hx
    · omega
    · exact h2 x hx
theorem max_in : ∀ (l : List Int) (a : Int), l.foldl max a = a ∨ l.foldl max a ∈ l
  | [], a => .inl rfl
  | y :: l, a => by
    rw [List.foldl_cons]
    rcases max_in l (max a y) with h | h
    · rw [h]
      by_cases z : a ≤ y
      · exact .inr (by rw [show max a y = y by omega]; exact List.mem_cons_self)
      · exact .inl (by omega)
    · exact .inr (List.mem_cons_of_mem _ h)
theorem mem_costs {f : Wf} {c g x : Int} : x ∈ costsF f c g ↔ ∃ d w, c ≤ d ∧ d ≤ g ∧ f d = some w ∧ w.1 = x := by
  unfold costsF
  rw [List.mem_filterMap]
  constructor
  · rintro ⟨d, hd, h⟩
    have := mem_days.mp hd
    cases e : f d with
    | none => rw [e] at h; cases h
    | some w => rw [e] at h; exact ⟨d, w, by omega, by omega, e, Option.some.inj h⟩
  · rintro ⟨d, w, h1, h2, h3, h4⟩
    exact ⟨d, mem_days.mpr ⟨h1, by omega⟩, by rw [h3, ← h4]; rfl⟩
theorem le_most {bs : List (List RuleD)} {c g n : Int} {f : Wf} (h : WI bs c g n f) {d : Int} {w : We} (hd : f d = some w) : w.1 ≤ mostF f c g := by
  have := h.rng d w hd
  exact (max_le _ _).2 _ (mem_costs.mpr ⟨d, w, this.1, this.2, hd, rfl⟩)
/-- the greatest of the costs, however it is found -/
theorem most_is {bs : List (List RuleD)} {c g n : Int} {f : Wf} (h : WI bs c g n f) {m : Int} (h1 : ∃ d w, f d = some w ∧ w.1 = m) (h2 : ∀ d w, f d = some w → w.1 ≤ m) : m = mostF f c g := by
  obtain ⟨d, w, e, rfl⟩ := h1
  have a := le_most h e
  have b : mostF f c g ≤ w.1 := by
    rcases max_in (costsF f c g) 0 with z | z
    · have := h2 c _ h.start
      unfold mostF
      rw [z]
      exact this
    · obtain ⟨d', w', -, -, e', q⟩ := mem_costs.mp z
      have := h2 d' w' e'
      unfold mostF
      omega
  omega
/-- sums of the paper -/
theorem paper_sum (f : Wf) (c g : Int) : ∀ (n : Nat) (b : Int), c ≤ b → b + n ≤ g → (((paperF f c g).drop (b - c).toNat).take n).sum = heightF f c g (b + n) - heightF f c g b
  | 0, b, _, _ => by simp
  | n + 1, b, hb, hn => by
    have e : (paperF f c g)[(b - c).toNat]? = some (heightF f c g (b + 1) - heightF f c g b) := by
      unfold paperF
      rw [List.getElem?_map, days_get (by push_cast at hn; omega), Option.map_some, show c + (((b - c).toNat : Nat) : Int) = b by omega]
    have hd : (paperF f c g).drop (b - c).toNat = (heightF f c g (b + 1) - heightF f c g b) :: (paperF f c g).drop (b + 1 - c).toNat := by
      have lt : (b - c).toNat < (paperF f c g).length := (List.getElem?_eq_some_iff.mp e).1
      rw [List.drop_eq_getElem_cons lt, (List.getElem?_eq_some_iff.mp e).2, show (b + 1 - c).toNat = (b - c).toNat + 1 by omega]
    rw [hd, List.take_succ_cons, List.sum_cons, paper_sum f c g n (b + 1) (by omega) (by push_cast at hn; omega)]
    rw [show b + 1 + (n : Int) = b + ((n + 1 : Nat) : Int) by push_cast; omega]
    omega
theorem paper_len (f : Wf) (c g : Int) : (paperF f c g).length = (g - c).toNat := by unfold paperF; rw [List.length_map, days_len]
/-- no part costs less than its numbers -/
theorem paper_part {bs : List (List RuleD)} {c g : Int} {f : Wf} (h : WI bs c g g f) (nn : ∀ (k : Nat) (rs : List RuleD) (b e x : Int), bs[k]? = some rs → coinO rs b e = some x → 0 ≤ x) {k : Nat} {rs : List RuleD} {b e x : Int} (hk : bs[k]? = some rs) (hb : c ≤ b) (he : b < e) (hg : e ≤ g) (hx : coinO rs b e = some x) :
    heightF f c g e - heightF f c g b ≤ x := by
  have x0 := nn k rs b e x hk hx
  unfold heightF
  cases h1 : f b with
  | none =>
    cases h2 : f e with
    | none => simp; exact x0
    | some w =>
      have := le_most h h2
      show w.1 - mostF f c g ≤ x
      omega
  | some w =>
    obtain ⟨w', h3, h4⟩ := h.closed b w (by omega) h1 k rs e x hk he hg hx
    rw [h3]
    show w'.1 - w.1 ≤ x
    omega
/-! YDi: dicts by whole numbers. -/
open PySem PySem.Spec PyProof.Rows L2
abbrev Df := Int → Option PyData
def OTd (H : Hp) : Option V → Option PyData → Prop
  | some v, some d => Td H v d
  | none, none => True
  | _, _ => False
theorem OTd.tk {H H' : Hp} (k : Tk H H') : ∀ {v : Option V} {d : Option PyData}, OTd H v d → OTd H' v d
  | some _, some _, h => Td.tk k h
  | none, none, _ => trivial
  | some _, none, h => h
  | none, some _, h => h
/-- a dict of whole numbers stands at a -/
def DicI (H : Hp) (a : Addr) (F : Df) : Prop := ∃ (kvs : List (Key × V)) (ks : List Int), H a = some (.dK kvs) ∧ kvs.map (·.1) = ks.map Sum.inl ∧ ks.Nodup ∧ ∀ i : Int, OTd H (valV kvs (.inl i)) (F i)
def dset (F : Df) (i : Int) (d : PyData) : Df := fun j => if j = i then some d else F j
theorem dic_keys {H : Hp} {kvs : List (Key × V)} {ks : List Int} {F : Df} (e : kvs.map (·.1) = ks.map Sum.inl) (h : ∀ i : Int, OTd H (valV kvs (.inl i)) (F i)) (i : Int) : i ∈ ks ↔ (F i).isSome = true := by
  have h1 := h i
  have mem : (Sum.inl i : Key) ∈ kvs.map (·.1) ↔ i ∈ ks := by
    rw [e, List.mem_map]
    constructor
    · rintro ⟨j, hj, q⟩
      cases q
      exact hj
    · exact fun hi => ⟨i, hi, rfl⟩
  rw [← mem]
  cases hv : valV kvs (.inl i) with
  | none =>
    have nm := valV_not hv
    rw [hv] at h1
    cases hF : F i with
    | none => simp; exact fun x hx => nm (List.mem_map.mpr ⟨_, hx, rfl⟩)
    | some d => rw [hF] at h1; exact h1.elim
  | some v =>
    have im := valV_in hv
    rw [hv] at h1
    cases hF : F i with
    | none => rw [hF] at h1; exact h1.elim
    | some d => exact ⟨fun _ => rfl, fun _ => im⟩
theorem nodup_len : ∀ (n : Nat) (lo : Int) (l : List Int), l.Nodup → (∀ i ∈ l, lo ≤ i ∧ i < lo + n) → l.length ≤ n
  | 0, lo, [], _, _ => Nat.le_refl _
  | 0, lo, x :: l, _, h => by have := h x List.mem_cons_self; omega
  | n + 1, lo, l, hd, h => by
    by_cases m : lo + (n : Int) ∈ l
    · have h1 := nodup_len n lo (l.erase (lo + n)) (hd.erase _) fun i hi => by
        have h2 := (List.Nodup.mem_erase_iff hd).mp hi
        have h3 := h i h2.2
        push_cast at h3
        omega
      rw [List.length_erase_of_mem m] at h1
      omega
    · have h1 := nodup_len n lo l hd fun i hi => by
        have h3 := h i hi
        have h4 : i ≠ lo + n := fun z => m (z ▸ hi)
        push_cast at h3
        omega
      omega
theorem dic_len {H : Hp} {kvs : List (Key × V)} {ks : List Int} {F : Df} (e : kvs.map (·.1) = ks.map Sum.inl) (nd : ks.Nodup) (h : ∀ i : Int, OTd H (valV kvs (.inl i)) (F i)) {lo : Int} {n : Nat} (r : ∀ i, (F i).isSome = true → lo ≤ i ∧ i < lo + n) : ks.length ≤ n ∧ kvs.length = ks.length := by
  refine ⟨nodup_len n lo ks nd fun i hi => r i ((dic_keys e h i).mp hi), ?_⟩
  have := congrArg List.length e
  simpa using this
theorem DicI.kept {H H' : Hp} {a : Addr} {F : Df} (k : Tk H H') (at_ : ∀ o, H a = some o → H' a = some o) (h : DicI H a F) : DicI H' a F := by
  obtain ⟨kvs, ks, h1, h2, h3, h4⟩ := h
  exact ⟨kvs, ks, at_ _ h1, h2, h3, fun i => (h4 i).tk k⟩
theorem dc_same {H H' : Hp} {a : Addr} {F : Df} (s : Same H H') (h : DicI H a F) : DicI H' a F := h.kept (Same.tk s) fun o e => s _ _ e
theorem dc_new {H : Hp} {a p : Addr} {o : HO} {F : Df} (hp : Fr H p) (h : DicI H a F) : DicI (upd H p o) a F := dc_same (same_new hp) h
theorem dc_put {H : Hp} {a p : Addr} {zs : List V} {o : HO} {F : Df} (hp : H p = some (.lst zs)) (h : DicI H a F) : DicI (upd H p o) a F := h.kept (tk_put hp) fun o e => at_ne (fun z => by
  obtain ⟨kvs, ks, h1, -⟩ := h
  rw [z, hp] at h1
  cases h1) e
theorem g_dg {td ty : TE} {σ : L2.St} {H : Hp} {Q : VK} (h : td σ H fun x H1 => ty σ H1 fun y H2 => ∃ a v, x = .ref a ∧ DGet H2 a y (some v) ∧ Q v H2) : tDGet td ty σ H Q := h
theorem g_din {td ty : TE} {σ : L2.St} {H : Hp} {Q : VK} (h : ty σ H fun y H1 => td σ H1 fun x H2 => ∃ a o, x = .ref a ∧ DGet H2 a y o ∧ Q (.bl o.isSome) H2) : tDIn ty td σ H Q := h
theorem g_dnin {td ty : TE} {σ : L2.St} {H : Hp} {Q : VK} (h : ty σ H fun y H1 => td σ H1 fun x H2 => ∃ a o, x = .ref a ∧ DGet H2 a y o ∧ Q (.bl (!o.isSome)) H2) : tDNotIn ty td σ H Q := h
theorem g_sdput {td ty tv : TE} {D : Ends} {σ : L2.St} {H : Hp} (h : tv σ H fun v H1 => td σ H1 fun x H2 => ty σ H2 fun y H3 => ∃ a H4, x = .ref a ∧ DPut H3 a y v H4 ∧ D.nx σ H4) : sDPut td ty tv D σ H := h
theorem di_get {H : Hp} {a : Addr} {F : Df} {i : Int} {d : PyData} {R : V → Prop} (h : DicI H a F) (e : F i = some d) (q : ∀ v, Td H v d → R v) : ∃ a' v, V.ref a = .ref a' ∧ DGet H a' (.int i) (some v) ∧ R v := by
  obtain ⟨kvs, ks, h1, h2, h3, h4⟩ := h
  have h5 := h4 i
  rw [e] at h5
  cases hv : valV kvs (.inl i) with
  | none => rw [hv] at h5; exact h5.elim
  | some v =>
    rw [hv] at h5
    refine ⟨a, v, rfl, ?_, q v h5⟩
    have := DGet.k (k := Sum.inl i) h1
    rw [hv] at this
    exact this
theorem dic_o {H : Hp} {a : Addr} {F : Df} (h : DicI H a F) (i : Int) : ∃ o, DGet H a (.int i) o ∧ o.isSome = (F i).isSome := by
  obtain ⟨kvs, ks, h1, h2, h3, h4⟩ := h
  have h5 := h4 i
  refine ⟨_, DGet.k (k := Sum.inl i) h1, ?_⟩
  cases hv : valV kvs (.inl i) with
  | none =>
    rw [hv] at h5
    cases hF : F i with
    | none => rfl
    | some d => rw [hF] at h5; exact h5.elim
  | some v =>
    rw [hv] at h5
    cases hF : F i with
    | none => rw [hF] at h5; exact h5.elim
    | some d => rfl
theorem di_in {H : Hp} {a : Addr} {F : Df} {i : Int} {R : Option V → Prop} (h : DicI H a F) (q : ∀ o : Option V, o.isSome = (F i).isSome → R o) : ∃ a' o, V.ref a = .ref a' ∧ DGet H a' (.int i) o ∧ R o := by
  obtain ⟨o, h1, h2⟩ := dic_o h i
  exact ⟨a, o, rfl, h1, q o h2⟩
theorem di_put {H : Hp} {a : Addr} {F : Df} {i : Int} {v : V} {d : PyData} {R : Hp → Prop} (h : DicI H a F) (t : Td H v d) {lo : Int} {n : Nat} (r : ∀ j, (F j).isSome = true → lo ≤ j ∧ j < lo + n) (hn : n < 100000)
    (q : ∀ H', Kp [a] H H' → Tk H H' → DicI H' a (dset F i d) → R H') : ∃ a' H4, V.ref a = .ref a' ∧ DPut H a' (.int i) v H4 ∧ R H4 := by
  obtain ⟨kvs, ks, h1, h2, h3, h4⟩ := h
  have hl := dic_len h2 h3 h4 r
  refine ⟨a, _, rfl, DPut.k (k := Sum.inl i) h1 (by have : sizeLine = 16777216 := rfl; omega), ?_⟩
  have tk : Tk H (upd H a (.dK (putK kvs (Sum.inl i) v))) := (ik_dic h1).tup
  refine q _ (kp_upd (by simp)) tk ?_
  have hv : ∀ j : Int, OTd (upd H a (.dK (putK kvs (Sum.inl i) v))) (valV (putK kvs (Sum.inl i) v) (.inl j)) (dset F i d j) := fun j => by
    rw [valV_put]
    unfold dset
    by_cases z : j = i
    · rw [if_pos z, if_pos (by rw [z])]
      exact t.tk tk
    · rw [if_neg z, if_neg (fun e => z (Sum.inl.inj e))]
      exact (h4 j).tk tk
  cases ho : valV kvs (.inl i) with
  | none =>
    refine ⟨_, ks ++ [i], upd_same, ?_, ?_, hv⟩
    · rw [putK_new v ho, List.map_append, List.map_append, h2]
      rfl
    · rw [List.nodup_append]
      refine ⟨h3, by simp, fun x hx y hy z => ?_⟩
      obtain rfl : y = i := by simpa using hy
      have := (dic_keys h2 h4 x).mp hx
      have h5 := h4 x
      rw [z] at this h5
      rw [ho] at h5
      obtain ⟨w, hw⟩ := Option.isSome_iff_exists.mp this
      rw [hw] at h5
      exact h5
  | some w =>
    refine ⟨_, ks, upd_same, ?_, h3, hv⟩
    have : (kvs.any fun kv => decide (kv.1 = Sum.inl i)) = true := by rw [valV_any, ho]; rfl
    unfold putK
    rw [if_pos this, List.map_map, ← h2]
    refine List.map_congr_left fun kv _ => ?_
    show (if kv.1 = Sum.inl i then (kv.1, v) else kv).1 = kv.1
    split <;> rfl
abbrev rSortDI : List V → Hp → VK → Prop := fun xs H Q => ∃ (a : Addr) (kvs : List (Key × V)) (ks : List Int), xs = [.ref a] ∧ Rd H a (.dK kvs) ∧ kvs.map (·.1) = ks.map Sum.inl ∧ ks.length < 64 ∧
    ∀ (ys : List Int) (p : Addr), ys.Perm ks → ys.Pairwise (· ≤ ·) → H p = none → Q (.ref p) (upd H p (.lst (ys.map V.int)))
theorem cr_sortDI {X : Cx} (hc : X.calm = true) : CallR X (.builtin "sorted") rSortDI := call_sortedDI hc
theorem sorted_ext : ∀ {l m : List Int}, l.Pairwise (· < ·) → m.Pairwise (· < ·) → (∀ x, x ∈ l ↔ x ∈ m) → l = m
  | [], [], _, _, _ => rfl
  | [], y :: m, _, _, h => by have := (h y).mpr List.mem_cons_self; cases this
  | x :: l, [], _, _, h => by have := (h x).mp List.mem_cons_self; cases this
  | x :: l, y :: m, hl, hm, h => by
    have hl' := List.pairwise_cons.mp hl
    have hm' := List.pairwise_cons.mp hm
    have xy : x = y := by
      rcases List.mem_cons.mp ((h x).mp List.mem_cons_self) with e | e
      · exact e
      · rcases List.mem_cons.mp ((h y).mpr List.mem_cons_self) with e' | e'
        · exact e'.symm
        · have := hl'.1 y e'
          have := hm'.1 x e
          omega
    subst xy
    rw [sorted_ext hl'.2 hm'.2 fun z => ?_]
    constructor
    · intro hz
      rcases List.mem_cons.mp ((h z).mp (List.mem_cons_of_mem _ hz)) with e | e
      · subst e; have := hl'.1 z hz; omega
      · exact e
    · intro hz
      rcases List.mem_cons.mp ((h z).mpr (List.mem_cons_of_mem _ hz)) with e | e
      · subst e; have := hm'.1 z hz; omega
      · exact e
theorem perm_sorted {ys ks m : List Int} (p : ys.Perm ks) (s : ys.Pairwise (· ≤ ·)) (nd : ks.Nodup) (hm : m.Pairwise (· < ·)) (h : ∀ x, x ∈ ks ↔ x ∈ m) : ys = m := by
  refine sorted_ext ?_ hm fun x => by rw [p.mem_iff]; exact h x
  have nd' : ys.Nodup := p.nodup_iff.mpr nd
  have := s.and nd'
  exact this.imp fun ⟨a, b⟩ => by omega
theorem g_sortDI {H : Hp} {a : Addr} {F : Df} {m : List Int} {Q : VK} (h : DicI H a F) (hm : m.Pairwise (· < ·)) (hx : ∀ x, (F x).isSome = true ↔ x ∈ m) (hl : m.length < 64) (q : ∀ p, Fr H p → Q (.ref p) (upd H p (.lst (m.map V.int)))) : rSortDI [.ref a] H Q := by
  obtain ⟨kvs, ks, h1, h2, h3, h4⟩ := h
  have hk : ∀ x, x ∈ ks ↔ x ∈ m := fun x => (dic_keys h2 h4 x).trans (hx x)
  have hlen : ks.length = m.length := List.Perm.length_eq ((List.perm_ext_iff_of_nodup h3 (hm.imp fun a => by omega)).mpr hk)
  refine ⟨a, kvs, ks, rfl, Rd.of h1, h2, by omega, fun ys p pm s hp => ?_⟩
  rw [perm_sorted pm s h3 hm hk]
  exact q p hp
/-- the values of a locked dict -/
theorem walk_vals {d : Addr} {o : Obj} {kvs : List (Key × V)} : Walk (Itd d o kvs) kvs.length (fun H => H d = some (.frz o (.dK kvs))) (fun i H x H' => H' = H ∧ ∃ k, kvs[i]? = some (k, x)) :=
  ⟨fun i H hi h => ⟨h, hi⟩, fun H h => ⟨h, Nat.le_refl _⟩, fun i H x H' _ _ y => y⟩
theorem unlock_same {H H' : Hp} {d : Addr} {u w : HO} (h : H d = some u) (s : Same (upd H d w) H') : Same H (upd H' d u) := fun b x e => by
  by_cases z : b = d
  · subst z
    rw [h] at e
    cases e
    exact upd_same
  · exact at_ne z (s _ _ (at_ne z e))
/-! YBe: the best of a stay. -/
open PySem PySem.Spec PyProof.Rows L2
def ptD (p : Pt) : PyData := .tuple [.int p.1, .int p.2.1, .int p.2.2]
def partD (x : Int × Pt) : PyData := .tuple [.int x.1, ptD x.2]
def poD : Option Pt → PyData | some p => ptD p | none => .none
def weD (w : We) : PyData := .tuple [.int w.1, poD w.2]
def wfD (f : Wf) : Df := fun i => (f i).map weD
theorem wfD_set (f : Wf) (i : Int) (w : We) : wfD (fset f i w) = dset (wfD f) i (weD w) := by
  funext j
  unfold wfD fset dset
  split <;> rfl
theorem wfD_some {f : Wf} {i : Int} {w : We} (h : f i = some w) : wfD f i = some (weD w) := by unfold wfD; rw [h]; rfl
theorem wfD_is (f : Wf) (i : Int) : (wfD f i).isSome = (f i).isSome := by unfold wfD; cases f i <;> rfl
/-- the books and the stay that are handed in -/
structure Bst (K : PySem.W.Frag) (H : Hp) (p a : Addr) (vs : List V) (bs : List (List RuleD)) (c g : Int) : Prop where
  seq : SqL K H p vs
  bks : Paired (BkAt K H) vs bs
  good : GoodB bs
  few : bs.length ≤ 10
  st : SqT K H a [.int c, .int g]
  stay : StayB c g
theorem Bst.same {K : PySem.W.Frag} {H H' : Hp} {p a : Addr} {vs : List V} {bs : List (List RuleD)} {c g : Int} (s : Same H H') (h : Bst K H p a vs bs c g) : Bst K H' p a vs bs c g :=
  ⟨Same.seq s h.seq, Paired.mapP h.bks fun _ _ q => q.same s, h.good, h.few, Same.seqT s h.st, h.stay⟩
def sp_parts_from (K : PySem.W.Frag) : Sp := Sp3 fun v y z H Q E => CFR K ∧ CFB K ∧ ∃ (p a : Addr) (vs : List V) (bs : List (List RuleD)) (c g d : Int), v = .ref p ∧ y = .ref a ∧ z = .int d ∧ Bst K H p a vs bs c g ∧ c ≤ d ∧ d < g ∧
  ∀ (q : Addr) (ys : List V) (H' : Hp), Same H H' → Fr H q → H' q = some (.lst ys) → Tds H' ys ((partsAll d g 0 bs).map partD) → Q (.ref q) H'
theorem g_parts_from {K : PySem.W.Frag} {p a : Addr} {vs : List V} {bs : List (List RuleD)} {c g d : Int} {H : Hp} {Q : VK} {E : XK} (cf : CFR K) (cb : CFB K) (h : Bst K H p a vs bs c g) (h0 : c ≤ d) (h1 : d < g)
    (q : ∀ (q : Addr) (ys : List V) (H' : Hp), Same H H' → Fr H q → H' q = some (.lst ys) → Tds H' ys ((partsAll d g 0 bs).map partD) → Q (.ref q) H') : sp_parts_from K ([.ref p, .ref a, .int d] ++ []) H Q E := ⟨_, _, _, rfl, cf, cb, p, a, vs, bs, c, g, d, rfl, rfl, rfl, h, h0, h1, q⟩
def sp_ways (K : PySem.W.Frag) : Sp := Sp2 fun v y H Q E => CFR K ∧ CFB K ∧ ∃ (p a : Addr) (vs : List V) (bs : List (List RuleD)) (c g : Int), v = .ref p ∧ y = .ref a ∧ Bst K H p a vs bs c g ∧
  ∀ (q : Addr) (H' : Hp), Same H H' → Fr H q → DicI H' q (wfD (waysF bs c g)) → Q (.ref q) H'
theorem g_ways {K : PySem.W.Frag} {p a : Addr} {vs : List V} {bs : List (List RuleD)} {c g : Int} {H : Hp} {Q : VK} {E : XK} (cf : CFR K) (cb : CFB K) (h : Bst K H p a vs bs c g)
    (q : ∀ (q : Addr) (H' : Hp), Same H H' → Fr H q → DicI H' q (wfD (waysF bs c g)) → Q (.ref q) H') : sp_ways K ([.ref p, .ref a] ++ []) H Q E := ⟨_, _, rfl, cf, cb, p, a, vs, bs, c, g, rfl, rfl, h, q⟩
def sp_cut_by (K : PySem.W.Frag) : Sp := Sp2 fun v y H Q E => ∃ (dd : Addr) (bs : List (List RuleD)) (c g n d : Int) (f : Wf) (w : We), v = .ref dd ∧ y = .int d ∧ DicI H dd (wfD f) ∧ WI bs c g n f ∧ g ≤ c + 50 ∧ f d = some w ∧
  ∀ (q : Addr) (ys : List V) (H' : Hp), Same H H' → Fr H q → H' q = some (.lst ys) → Tds H' ys ((cutF f (d - c + 1).toNat d).map ptD) → Q (.ref q) H'
def sp_paper_by (K : PySem.W.Frag) : Sp := Sp2 fun v y H Q E => ∃ (dd a : Addr) (bs : List (List RuleD)) (c g n : Int) (f : Wf), v = .ref dd ∧ y = .ref a ∧ SqT K H a [.int c, .int g] ∧ StayB c g ∧ DicI H dd (wfD f) ∧ WI bs c g n f ∧
  ∀ (q : Addr) (H' : Hp), Same H H' → Fr H q → H' q = some (.lst ((paperF f c g).map V.int)) → Q (.ref q) H'
theorem dic_one {H : Hp} {a : Addr} {c : Int} {v : V} {w : We} (h : H a = some (.dK (mergeK [] [(.inl c, v)]))) (t : Td H v (weD w)) : DicI H a (wfD fun i => if i = c then some w else none) := by
  refine ⟨_, [c], h, rfl, by simp, fun i => ?_⟩
  show OTd H (valV [(Sum.inl c, v)] (.inl i)) _
  unfold wfD
  by_cases z : i = c
  · rw [valV_pos (by rw [z])]
    dsimp only
    rw [if_pos z]
    exact t
  · rw [valV_neg (fun e => z (Sum.inl.inj e).symm), valV_nil]
    dsimp only
    rw [if_neg z]
    exact trivial
theorem sm_put {H H1 H2 : Hp} {d : Addr} (f : Fr H d) (s : Same H H1) (k : Kp [d] H1 H2) : Same H H2 := fun b x e => k _ _ (s _ _ e) fun z => by
  have : b = d := by simpa using z
  rw [this, f] at e
  cases e
theorem td_we {H : Hp} {v : V} {w : We} (h : Td H v (weD w)) : ∃ t u, v = .ref t ∧ H t = some (.tup [.int w.1, u]) ∧ Td H u (poD w.2) := by
  unfold weD at h
  cases h with
  | tup h r =>
    cases r with
    | cons a r =>
      cases r with
      | cons b r =>
        cases r
        cases a
        exact ⟨_, _, rfl, h, b⟩
theorem td_pt {H : Hp} {v : V} {w : Pt} (h : Td H v (ptD w)) : ∃ t, v = .ref t ∧ H t = some (.tup [.int w.1, .int w.2.1, .int w.2.2]) := by
  unfold ptD at h
  cases h with
  | tup h r =>
    cases r with
    | cons a r =>
      cases r with
      | cons b r =>
        cases r with
        | cons d r =>
          cases r
          cases a
          cases b
          cases d
          exact ⟨_, rfl, h⟩
theorem td_part {H : Hp} {v : V} {w : Int × Pt} (h : Td H v (partD w)) : ∃ t u, v = .ref t ∧ H t = some (.tup [.int w.1, .ref u]) ∧ H u = some (.tup [.int w.2.1, .int w.2.2.1, .int w.2.2.2]) := by
  unfold partD at h
  cases h with
  | tup h r =>
    cases r with
    | cons a r =>
      cases r with
      | cons b r =>
        cases r
        cases a
        obtain ⟨t, rfl, e⟩ := td_pt b
        exact ⟨_, t, rfl, h, e⟩
theorem days_atF (h : Int → Int) {c g i : Int} (h0 : 0 ≤ i) (hi : i < g - c) : atI (((days c g).map h).map V.int) i = some (.int (h (c + i))) := by
  have e : ((i.toNat : Nat) : Int) = i := by omega
  have h2 := atI_nat (xs := ((days c g).map h).map V.int) (j := i.toNat) (v := .int (h (c + i))) (by rw [List.getElem?_map, List.getElem?_map, days_get (by omega), e]; rfl)
  rwa [e] at h2
theorem g_iVals {td : TE} {σ : L2.St} {H : Hp} {R : It → Hp → Prop} (h : td σ H fun x H1 => ∃ d o kvs, x = .ref d ∧ H1 d = some (.frz o (.dK kvs)) ∧ R (Itd d o kvs) H1) : iVals td σ H R := h
theorem g_max {K : PySem.W.Frag} {H : Hp} {Q : VK} {p : Addr} {ns : List Int} (h : SqL K H p (ns.map V.int)) (l : 0 < ns.length) (q : ∀ m, m ∈ ns → (∀ y ∈ ns, y ≤ m) → Q (.int m) H) : rMax K [.ref p] H Q := ⟨p, ns, rfl, h, l, q⟩
theorem g_cut_by {K : PySem.W.Frag} {dd : Addr} {bs : List (List RuleD)} {c g n d : Int} {f : Wf} {w : We} {H : Hp} {Q : VK} {E : XK} (h : DicI H dd (wfD f)) (hW : WI bs c g n f) (hg : g ≤ c + 50) (hd : f d = some w)
    (q : ∀ (q : Addr) (ys : List V) (H' : Hp), Same H H' → Fr H q → H' q = some (.lst ys) → Tds H' ys ((cutF f (d - c + 1).toNat d).map ptD) → Q (.ref q) H') : sp_cut_by K ([.ref dd, .int d] ++ []) H Q E := ⟨_, _, rfl, dd, bs, c, g, n, d, f, w, rfl, rfl, h, hW, hg, hd, q⟩
theorem g_paper_by {K : PySem.W.Frag} {dd a : Addr} {bs : List (List RuleD)} {c g n : Int} {f : Wf} {H : Hp} {Q : VK} {E : XK} (s : SqT K H a [.int c, .int g]) (st : StayB c g) (h : DicI H dd (wfD f)) (hW : WI bs c g n f)
    (q : ∀ (q : Addr) (H' : Hp), Same H H' → Fr H q → H' q = some (.lst ((paperF f c g).map V.int)) → Q (.ref q) H') : sp_paper_by K ([.ref dd, .ref a] ++ []) H Q E := ⟨_, _, rfl, dd, a, bs, c, g, n, f, rfl, rfl, s, st, h, hW, q⟩
def offB (bs : List (List RuleD)) (c g : Int) : Bool := (waysF bs c g g).isNone
def cutL (bs : List (List RuleD)) (c g : Int) : List Pt := cutF (waysF bs c g) (g - c + 1).toNat g
def coinsL (bs : List (List RuleD)) (c g : Int) : Int := costF (waysF bs c g) g
def paperL (bs : List (List RuleD)) (c g : Int) : List Int := paperF (waysF bs c g) c g
def shutL (bs : List (List RuleD)) (c g : Int) : List Int := shutF (waysF bs c g) c g
def QOff (bs : List (List RuleD)) (c g : Int) (H : Hp) (Q : VK) : Prop := offB bs c g = true → ∀ (p q : Addr) (H' : Hp), Same H H' → Fr H p → Fr H q → H' p = some (.tup [.str "off", .ref q]) → H' q = some (.lst ((shutL bs c g).map V.int)) → Q (.ref p) H'
def QHad (bs : List (List RuleD)) (c g : Int) (H : Hp) (Q : VK) : Prop := offB bs c g = false → ∀ (p q r : Addr) (ys : List V) (H' : Hp), Same H H' → Fr H p → Fr H q → Fr H r → q ≠ r → H' p = some (.tup [.str "had", .int (coinsL bs c g), .ref q, .ref r]) → H' q = some (.lst ys) → Tds H' ys ((cutL bs c g).map ptD) → H' r = some (.lst ((paperL bs c g).map V.int)) → Q (.ref p) H'
def sp_best (K : PySem.W.Frag) : Sp := Sp2 fun v y H Q E => CFR K ∧ CFB K ∧ ∃ (p a : Addr) (vs : List V) (bs : List (List RuleD)) (c g : Int), v = .ref p ∧ y = .ref a ∧ Bst K H p a vs bs c g ∧ QOff bs c g H Q ∧ QHad bs c g H Q
theorem g_best {K : PySem.W.Frag} {p a : Addr} {vs : List V} {bs : List (List RuleD)} {c g : Int} {H : Hp} {Q : VK} {E : XK} (cf : CFR K) (cb : CFB K) (h : Bst K H p a vs bs c g) (q1 : QOff bs c g H Q) (q2 : QHad bs c g H Q) : sp_best K ([.ref p, .ref a] ++ []) H Q E :=
  ⟨_, _, rfl, cf, cb, p, a, vs, bs, c, g, rfl, rfl, h, q1, q2⟩
def t_parts_from (K : PySem.W.Frag) : TS :=
  (tSeq (tAsg (tLst tNil) (gName 3))
  (tSeq (tFor (iEnum K (tCons (tVar 0) tNil)) (gTup K 2 (gCons (gName 4) (gCons (gName 5) gNil)))
  (tFor (iRng2 (tCons (tOp rAdd (tVar 2) (tC (.int 1))) (tCons (tOp rAdd (tOp (rIxT K) (tVar 1) (tC (.int 1))) (tC (.int 1))) tNil))) (gName 6)
  (tSeq (tAsg (tCall (sp_coins_of K) [] E0 (tCons (tVar 5) (tCons (tTup (tCons (tVar 2) (tCons (tVar 6) tNil))) tNil))) (gName 7))
  (tIfS (tTest (tOp rNotN (tVar 7) (tC .non)))
  (tDrop (tBM K "list" rAppend (tVar 3) (tCons (tTup (tCons (tVar 7) (tCons (tTup (tCons (tVar 2) (tCons (tVar 6) (tCons (tVar 4) tNil)))) tNil))) tNil)))
  tNext))))
  (tRet (tVar 3))))
theorem pure_parts_from {K : PySem.W.Frag} {v y z : V} {H : Hp} {Q : VK} {E : XK} (h : sp_parts_from K [v, y, z] H Q E) : t_parts_from K { nx := fun _ H' => Q .non H', rt := Q } [some v, some y, some z, none, none, none, none, none] H := by
  obtain ⟨v, y, z, e, cf, cb, p, a, vs, bs, c, g, d, rfl, rfl, rfl, B, d0, d1, q⟩ := h
  cases e
  unfold t_parts_from
  have hvl := Paired.length B.bks
  obtain ⟨c0, c1, c2, c3⟩ := B.stay
  walk_at "ss"
  rename_i fl hfl
  refine g_iEnum ?_
  walk_at "ss"
  have s0 : Same H (upd H fl (.lst [])) := same_new hfl
  refine ⟨p, vs, rfl, Same.seq s0 B.seq, ?_⟩
  have few := B.few
  refine for_it (walk_enum (K := K) (a := p) (xs := vs)) (fun i σ H' => ∃ v4 v5 v6 v7 ys, σ = [some (.ref p), some (.ref a), some (.int d), some (.ref fl), v4, v5, v6, v7] ∧ Same H H' ∧ H' fl = some (.lst ys) ∧ Tds H' ys ((partsAll d g 0 (bs.take i)).map partD) ∧ ys.length ≤ 20 * i)
    ⟨_, _, _, _, [], rfl, s0, upd_same, .nil, by simp⟩ (fun i σ H' _ h => by obtain ⟨_, _, _, _, _, _, h, _⟩ := h; exact Same.seq h B.seq) ?_ ?_
  · rintro i x σ H' H2 hi ⟨v4, v5, v6, v7, ys, rfl, sm, hys, hT, hyl⟩ ⟨T, x1, x2, rfl, hTf, rfl, h1, h2⟩
    replace hTf : Fr H' T := hTf
    replace h2 : vs[i]? = some x2 := h2
    obtain rfl : x1 = .int (i : Nat) := (Option.some.inj h1).symm
    obtain ⟨rs, hrs, hbk⟩ := Paired.getL B.bks h2
    have hi' : i < bs.length := (List.getElem?_eq_some_iff.mp hrs).1
    have gr : ∀ r ∈ rs, RuleD.good r := B.good rs (List.mem_of_getElem? hrs)
    have sm2 : Same H (upd H' T (.tup [.int (i : Nat), x2])) := sm_new hTf sm
    have ys2 : (upd H' T (.tup [.int (i : Nat), x2])) fl = some (.lst ys) := at_new hTf hys
    have T2 : Tds (upd H' T (.tup [.int (i : Nat), x2])) ys ((partsAll d g 0 (bs.take i)).map partD) := tds_new hTf hT
    have st := B.st
    have st2 : SqT K (upd H' T (.tup [.int (i : Nat), x2])) a [.int c, .int g] := Same.seqT sm2 st
    walk_at "ss"
    clear hTf hys hT sm
    generalize upd H' T (.tup [.int (i : Nat), x2]) = G at sm2 ys2 T2 st2 ⊢
    have rowl : ∀ k : Nat, (((days (d + 1) (g + 1)).take k).filterMap fun e => (coinO rs d e).map fun c => (c, ((d, e, ((i : Nat) : Int)) : Pt))).length ≤ k := fun k => by
      refine Nat.le_trans (List.length_filterMap_le _ _) ?_
      rw [List.length_take]
      exact Nat.min_le_left _ _
    refine for_range (lo := d + 1) (n := (g + 1 - (d + 1)).toNat) (fun k σ H3 => ∃ v6 v7 ys, σ = [some (.ref p), some (.ref a), some (.int d), some (.ref fl), some (.int (i : Nat)), some x2, v6, v7] ∧ Same H H3 ∧ H3 fl = some (.lst ys) ∧ Tds H3 ys ((partsAll d g 0 (bs.take i) ++ ((days (d + 1) (g + 1)).take k).filterMap fun e => (coinO rs d e).map fun c => (c, (d, e, ((i : Nat) : Int)))).map partD) ∧ ys.length ≤ 20 * i + k)
      ⟨_, _, ys, rfl, sm2, ys2, by simpa using T2, by omega⟩ ?_ ?_
    · clear sm2 ys2 T2 st2 hyl
      rintro k σ H3 hk ⟨v6, v7, ys, rfl, sm, hys, hT, hyl⟩
      obtain ⟨F, hB⟩ := hbk.same sm
      have hdk : (days (d + 1) (g + 1))[k]? = some (d + 1 + (k : Int)) := days_get (by omega)
      walk_at "ss"
      rename_i tp htp
      refine g_coins (F := F) cf cb (bk_new htp hB) gr (SqT.of upd_same) ⟨by omega, by omega, by omega, by omega⟩ fun H4 s4 => ?_
      have sm4 : Same H H4 := (sm_new htp sm).trans s4
      have hys4 := s4 _ _ (at_new htp hys)
      have hT4 := tds_same s4 (tds_new htp hT)
      rw [List.take_add_one, hdk]
      walk_at "ss"
      by_cases hh : hadB rs d (d + 1 + (k : Int)) = true
      · have ec : coinO rs d (d + 1 + (k : Int)) = some (sumD rs d (d + 1 + (k : Int))) := if_pos hh
        rw [if_pos hh]
        refine ite_ndf (by simp) ?_
        walk_at "ss"
        rename_i t1 ht1 t2 ht2
        refine ⟨_, _, ys ++ [.ref t2], rfl, sm_own (fr_of hfl (Same.refl _)) (by walk_at "sm"), upd_same, ?_, by rw [List.length_append, List.length_singleton]; omega⟩
        have e : ∀ (A : List (Int × Pt)) (L : List Int) (φ : Int → Option (Int × Pt)) (x : Int × Pt) (d : Int), φ d = some x → (A ++ (L ++ (some d).toList).filterMap φ).map partD = (A ++ L.filterMap φ).map partD ++ [partD x] := fun A L φ x d h => by
          simp [List.filterMap_append, h]
        rw [e _ _ _ (sumD rs d (d + 1 + (k : Int)), (d, d + 1 + (k : Int), ((i : Nat) : Int))) _ (by rw [ec]; rfl)]
        exact tds_put (at_new ht2 (at_new ht1 hys4)) (tds_snoc (tds_new ht2 (tds_new ht1 hT4)) (td_tup upd_same (.cons (.int _) (.cons (td_new ht2 (td_tup upd_same (.cons (.int _) (.cons (.int _) (.cons (.int _) .nil))))) .nil))))
      · have ec : coinO rs d (d + 1 + (k : Int)) = none := if_neg hh
        rw [if_neg hh]
        refine ite_ndt rfl ?_
        walk_at "ss"
        refine ⟨_, _, ys, rfl, sm4, hys4, ?_, by omega⟩
        have e : ∀ (A : List (Int × Pt)) (L : List Int) (φ : Int → Option (Int × Pt)) (d : Int), φ d = none → (A ++ (L ++ (some d).toList).filterMap φ).map partD = (A ++ L.filterMap φ).map partD := fun A L φ d h => by
          simp [List.filterMap_append, h]
        rw [e _ _ _ _ (by rw [ec]; rfl)]
        exact hT4
    · clear sm2 ys2 T2 st2 hyl
      rintro σ H3 ⟨v6, v7, ys, rfl, sm, hys, hT, hyl⟩
      refine ⟨_, _, _, _, ys, rfl, sm, hys, ?_, ?_⟩
      · rw [List.take_add_one, hrs]
        show Tds H3 ys ((partsAll d g 0 (bs.take i ++ [rs])).map partD)
        rw [partsAll_snoc, List.length_take, Nat.min_eq_left (by omega), Int.zero_add]
        rw [List.take_of_length_le (l := days (d + 1) (g + 1)) (by rw [days_len]; exact Nat.le_refl _)] at hT
        exact hT
      · omega
  · rintro σ H' ⟨v4, v5, v6, v7, ys, rfl, sm, hys, hT, hyl⟩
    walk_at "ss"
    rw [List.take_of_length_le (by omega)] at hT
    exact q fl ys H' sm hfl hys hT
def t_ways (K : PySem.W.Frag) : TS :=
  (tSeq (tAsg (tDisp [((tOp (rIxT K) (tVar 1) (tC (.int 0))), (tTup (tCons (tC (.int 0)) (tCons (tC .non) tNil))))]) (gName 2))
  (tSeq (tFor (iRng2 (tCons (tOp (rIxT K) (tVar 1) (tC (.int 0))) (tCons (tOp (rIxT K) (tVar 1) (tC (.int 1))) tNil))) (gName 3)
  (tIfS (tB (tDIn (tVar 3) (tVar 2)))
  (tFor (iList K (tCall (sp_parts_from K) [] E0 (tCons (tVar 0) (tCons (tVar 1) (tCons (tVar 3) tNil))))) (gTup K 2 (gCons (gName 4) (gCons (gName 5) gNil)))
  (tSeq (tAsg (tOp rAdd (tOp (rIxT K) (tDGet (tVar 2) (tVar 3)) (tC (.int 0))) (tVar 4)) (gName 6))
  (tIfS (tOr (tB (tDNotIn (tOp (rIxT K) (tVar 5) (tC (.int 1))) (tVar 2))) (tTest (tOp rLt (tVar 6) (tOp (rIxT K) (tDGet (tVar 2) (tOp (rIxT K) (tVar 5) (tC (.int 1)))) (tC (.int 0))))))
  (sDPut (tVar 2) (tOp (rIxT K) (tVar 5) (tC (.int 1))) (tTup (tCons (tVar 6) (tCons (tVar 5) tNil))))
  tNext)))
  tNext))
  (tRet (tVar 2))))
theorem pure_ways {K : PySem.W.Frag} {v y : V} {H : Hp} {Q : VK} {E : XK} (h : sp_ways K [v, y] H Q E) : t_ways K { nx := fun _ H' => Q .non H', rt := Q } [some v, some y, none, none, none, none, none] H := by
  obtain ⟨v, y, e, cf, cb, p, a, vs, bs, c, g, rfl, rfl, B, q⟩ := h
  cases e
  unfold t_ways
  obtain ⟨c0, c1, c2, c3⟩ := B.stay
  with_reducible refine g_seqA ?_
  with_reducible refine g_asg ?_
  intro dd hdd
  replace hdd : Fr H dd := hdd
  have s0 : Same H (upd H dd (.dK [])) := same_new hdd
  have st0 : SqT K (upd H dd (.dK [])) a [.int c, .int g] := Same.seqT s0 B.st
  show tPairs _ _ _ _
  unfold tPairs
  walk_at "ss"
  rename_i tp htp
  refine ⟨at_new htp upd_same, [(.inl c, .ref tp)], rfl, by simp, ?_⟩
  have stp : Same H (upd (upd (upd H dd (.dK [])) tp (.tup [.int 0, .non])) dd (.dK (mergeK [] [(.inl c, .ref tp)]))) := sm_own hdd (sm_new htp s0)
  have tdn : dd ≠ tp := fun z => by
    have := htp
    rw [← z] at this
    have e : upd H dd (.dK []) dd = some (.dK []) := upd_same
    rw [show upd H dd (.dK []) dd = none from this] at e
    cases e
  have dic := dic_one (c := c) (w := (0, none)) (H := upd (upd (upd H dd (.dK [])) tp (.tup [.int 0, .non])) dd (.dK (mergeK [] [(.inl c, .ref tp)]))) (v := .ref tp) upd_same (td_tup (at_ne (Ne.symm tdn) upd_same) (.cons (.int _) (.cons .non .nil)))
  generalize upd (upd (upd H dd (.dK [])) tp (.tup [.int 0, .non])) dd (.dK (mergeK [] [(.inl c, .ref tp)])) = G at stp dic
  have stG : SqT K G a [.int c, .int g] := Same.seqT stp B.st
  walk_at "ss"
  have rngd : ∀ {n : Int} {f : Wf}, WI bs c g n f → ∀ j, (wfD f j).isSome = true → c ≤ j ∧ j < c + (15 : Nat) := fun h j hj => by
    rw [wfD_is] at hj
    obtain ⟨w, hw⟩ := Option.isSome_iff_exists.mp hj
    have := h.rng j w hw
    omega
  refine for_range (lo := c) (n := (g - c).toNat) (fun i σ H' => ∃ v3 v4 v5 v6 f, σ = [some (.ref p), some (.ref a), some (.ref dd), v3, v4, v5, v6] ∧ Same H H' ∧ f = ((days c g).take i).foldl (dayW bs g) (way0 c) ∧ DicI H' dd (wfD f))
    ⟨_, _, _, _, way0 c, rfl, stp, rfl, dic⟩ ?_ ?_
  · clear stG dic stp htp tdn st0 s0
    clear G
    rintro i σ H' hi ⟨v3, v4, v5, v6, f, rfl, sm, hf, hD⟩
    have hW : WI bs c g (c + (i : Int)) f := hf ▸ fold_WI (by omega) i (by omega)
    have hdk : (days c g)[i]? = some (c + (i : Int)) := days_get (by omega)
    have nx : ∀ {σ' : L2.St} {H2 : Hp} {v3 v4 v5 v6 : Option V} {f' : Wf}, σ' = [some (.ref p), some (.ref a), some (.ref dd), v3, v4, v5, v6] → Same H H2 → f' = dayW bs g f (c + (i : Int)) → DicI H2 dd (wfD f') → ∃ v3 v4 v5 v6 f, σ' = [some (.ref p), some (.ref a), some (.ref dd), v3, v4, v5, v6] ∧ Same H H2 ∧ f = ((days c g).take (i + 1)).foldl (dayW bs g) (way0 c) ∧ DicI H2 dd (wfD f) := fun e1 e2 e3 e4 =>
      ⟨_, _, _, _, _, e1, e2, by rw [e3, List.take_add_one, hdk, List.foldl_append, ← hf]; rfl, e4⟩
    walk_at "ss"
    cases hfd : f (c + (i : Int)) with
    | none =>
      rw [wfD_is, hfd]
      refine ite_f rfl ?_
      walk_at "ss"
      exact nx rfl sm (by unfold dayW; rw [hfd]) hD
    | some w0 =>
      rw [wfD_is, hfd]
      refine ite_t rfl ?_
      walk_at "ss"
      refine g_parts_from (c := c) (g := g) (d := c + (i : Int)) cf cb (B.same sm) (by omega) (by omega) fun lq ys H2 s2 f2 hl2 hT => ?_
      walk_at "ss"
      have hyl := tds_len hT
      rw [List.length_map] at hyl
      have sm2 : Same H H2 := sm.trans s2
      have hD2 := dc_same s2 hD
      obtain ⟨L, hL⟩ : ∃ L, L = partsAll (c + (i : Int)) g 0 bs := ⟨_, rfl⟩
      rw [← hL] at hT hyl
      have fl2 : Fr H lq := fr_of f2 sm
      have lqd : lq ≠ dd := fun z => by
        obtain ⟨kvs, ks, h1, -⟩ := hD2
        rw [← z, hl2] at h1
        cases h1
      refine for_list (K := K) (a := lq) (xs := ys) (fun j σ H' => ∃ v4 v5 v6 f', σ = [some (.ref p), some (.ref a), some (.ref dd), some (.int (c + (i : Int))), v4, v5, v6] ∧ Same H H' ∧ H' lq = some (.lst ys) ∧ Tds H' ys (L.map partD) ∧ f' = (L.take j).foldl (relax w0.1) f ∧ DicI H' dd (wfD f'))
        ⟨_, _, _, f, rfl, sm2, hl2, hT, rfl, hD2⟩ (fun j σ H' _ h => by obtain ⟨_, _, _, _, _, _, h, _⟩ := h; exact SqL.of h) ?_ ?_
      · clear hD2 sm2 hT s2 f2 hD sm hl2
        clear H2
        clear H'
        rintro j x σ H' hj ⟨v4, v5, v6, f', rfl, sm, hl, hT, hf', hD⟩
        obtain ⟨d, hd, tx⟩ := tds_get hT hj
        rw [List.getElem?_map] at hd
        obtain ⟨y, hy, rfl⟩ : ∃ y, L[j]? = some y ∧ d = partD y := by
          cases e : L[j]? with
          | none => rw [e] at hd; cases hd
          | some y => rw [e] at hd; exact ⟨y, rfl, (Option.some.inj hd).symm⟩
        have ym := mem_partsAll.mp (hL ▸ List.mem_of_getElem? hy)
        obtain ⟨t, u, rfl, ht, hu⟩ := td_part tx
        have mt : ∀ x ∈ L.take j, c + (i : Int) < x.2.2.1 ∧ x.2.2.1 ≤ g := fun x hx => by
          have := mem_partsAll.mp (hL ▸ List.mem_of_mem_take hx)
          exact ⟨this.2.1, this.2.2.1⟩
        have fr := fold_relax w0.1 (L.take j) f
        rw [← hf'] at fr
        have hd' : f' (c + (i : Int)) = some w0 := by
          rcases fr.1 (c + (i : Int)) with h | ⟨x, hx, h, -⟩
          · rw [h]; exact hfd
          · have := mt x hx; omega
        have rg : ∀ k, (wfD f' k).isSome = true → c ≤ k ∧ k < c + (15 : Nat) := fun k hk => by
          rcases fr.1 k with h | ⟨x, hx, h, -⟩
          · rw [wfD_is, h, ← wfD_is] at hk
            exact rngd hW k hk
          · have := mt x hx
            omega
        have nx' : ∀ {σ' : L2.St} {H2 : Hp} {v4 v5 v6 : Option V} {f2 : Wf}, σ' = [some (.ref p), some (.ref a), some (.ref dd), some (.int (c + (i : Int))), v4, v5, v6] → Same H H2 → H2 lq = some (.lst ys) → Tds H2 ys (L.map partD) → f2 = relax w0.1 f' y → DicI H2 dd (wfD f2) →
            ∃ v4 v5 v6 f', σ' = [some (.ref p), some (.ref a), some (.ref dd), some (.int (c + (i : Int))), v4, v5, v6] ∧ Same H H2 ∧ H2 lq = some (.lst ys) ∧ Tds H2 ys (L.map partD) ∧ f' = (L.take (j + 1)).foldl (relax w0.1) f ∧ DicI H2 dd (wfD f') := fun e1 e2 e3 e4 e5 e6 =>
          ⟨_, _, _, _, e1, e2, e3, e4, by rw [e5, List.take_add_one, hy, List.foldl_append, ← hf']; rfl, e6⟩
        walk_at "ss"
        refine di_get hD (wfD_some hd') fun v0 hv0 => ?_
        obtain ⟨t0, u0, rfl, ht0, -⟩ := td_we hv0
        walk_at "ss"
        cases hfe : f' y.2.2.1 with
        | none =>
          rw [wfD_is, hfe]
          refine ite_t rfl ?_
          refine iteT ?_
          walk_at "ss"
          rename_i tq htq
          refine di_put (d := weD (w0.1 + y.1, some y.2)) (dc_new htq hD) (td_tup upd_same (.cons (.int _) (.cons (td_new htq (td_tup hu (.cons (.int _) (.cons (.int _) (.cons (.int _) .nil))))) .nil))) rg (by omega) fun H5 k5 tk5 hD5 => ?_
          exact nx' rfl (sm_put hdd (sm_new htq sm) k5) (k5 _ _ (at_new htq hl) (by simp [lqd])) (tds_tk tk5 (tds_new htq hT)) (by unfold relax; rw [if_pos (.inl (by rw [hfe]; rfl))]) (by rw [wfD_set]; exact hD5)
        | some w1 =>
          rw [wfD_is, hfe]
          refine ite_f rfl ?_
          walk_at "ss"
          refine di_get hD (wfD_some hfe) fun v1 hv1 => ?_
          obtain ⟨t1, u1, rfl, ht1, -⟩ := td_we hv1
          walk_at "ss"
          refine ite_d (fun z => ?_) fun z => ?_
          · walk_at "ss"
            rename_i tq htq
            refine di_put (d := weD (w0.1 + y.1, some y.2)) (dc_new htq hD) (td_tup upd_same (.cons (.int _) (.cons (td_new htq (td_tup hu (.cons (.int _) (.cons (.int _) (.cons (.int _) .nil))))) .nil))) rg (by omega) fun H5 k5 tk5 hD5 => ?_
            exact nx' rfl (sm_put hdd (sm_new htq sm) k5) (k5 _ _ (at_new htq hl) (by simp [lqd])) (tds_tk tk5 (tds_new htq hT)) (by unfold relax; rw [if_pos (.inr (by rw [hfe]; exact z))]) (by rw [wfD_set]; exact hD5)
          · walk_at "ss"
            exact nx' rfl sm hl hT (by unfold relax; rw [if_neg (by rw [hfe]; simp; exact Int.not_lt.mp z)]) hD
      · rintro σ H3 ⟨v4, v5, v6, f', rfl, sm3, hl3, hT3, hf', hD3⟩
        walk_at "ss"
        rw [List.take_of_length_le (by omega)] at hf'
        exact nx rfl sm3 (by unfold dayW; rw [hfd, hf', hL]) hD3
  · rintro σ H' ⟨v3, v4, v5, v6, f, rfl, sm, hf, hD⟩
    walk_at "ss"
    rw [List.take_of_length_le (by rw [days_len]; exact Nat.le_refl _)] at hf
    subst hf
    exact q dd H' sm hdd hD
def t_cut_by (K : PySem.W.Frag) : TS :=
  (tSeq (tAsg (tLst tNil) (gName 2))
  (tSeq (tAsg (tOp (rIxT K) (tDGet (tVar 0) (tVar 1)) (tC (.int 1))) (gName 3))
  (tSeq (tWhile (tTest (tOp rNotN (tVar 3) (tC .non)))
  (tSeq (tDrop (tBM K "list" rInsert (tVar 2) (tCons (tC (.int 0)) (tCons (tVar 3) tNil))))
  (tAsg (tOp (rIxT K) (tDGet (tVar 0) (tOp (rIxT K) (tVar 3) (tC (.int 0)))) (tC (.int 1))) (gName 3))))
  (tRet (tVar 2)))))
theorem pure_cut_by {K : PySem.W.Frag} {v y : V} {H : Hp} {Q : VK} {E : XK} (h : sp_cut_by K [v, y] H Q E) : t_cut_by K { nx := fun _ H' => Q .non H', rt := Q } [some v, some y, none, none] H := by
  obtain ⟨v, y, e, dd, bs, c, g, n, d, f, w, rfl, rfl, hD, hW, hg, hd, q⟩ := h
  cases e
  unfold t_cut_by
  have rd := hW.rng d w hd
  walk_at "ss"
  rename_i fl hfl
  have s0 : Same H (upd H fl (.lst [])) := same_new hfl
  refine di_get (dc_same s0 hD) (wfD_some hd) fun v0 hv0 => ?_
  obtain ⟨t0, u0, rfl, ht0, hu0⟩ := td_we hv0
  walk_at "ss"
  refine while_m (fun m σ H' => ∃ (e : Int) (w : We) (x : V) (ys : List V) (L : List Pt) (M : Nat), σ = [some (.ref dd), some (.int d), some (.ref fl), some x] ∧ Same H H' ∧ H' fl = some (.lst ys) ∧ Tds H' ys (L.map ptD) ∧ (ys.length : Int) + (e - c) ≤ d - c ∧ f e = some w ∧ Td H' x (poD w.2) ∧ e - c < M ∧ cutF f (d - c + 1).toNat d = cutF f M e ++ L ∧ m = (e - c).toNat)
    ⟨d, w, u0, [], [], (d - c + 1).toNat, rfl, s0, upd_same, .nil, by simp, hd, hu0, by omega, by simp, rfl⟩ ?_ ?_
  · rintro m σ H' ⟨e, w, x, ys, L, M, rfl, sm, hys, hT, hl, he, hx, hM, hc, rfl⟩
    have re := hW.rng e w he
    walk_at "ss"
    obtain ⟨t, po⟩ := w
    cases po with
    | none =>
      cases hx
      refine ite_ndt rfl ?_
      walk_at "ss"
      have : cutF f M e = [] := by
        cases M with
        | zero => rfl
        | succ M => rw [cutF, he]
      rw [this, List.nil_append] at hc
      exact q fl ys H' sm hfl hys (by rw [hc]; exact hT)
    | some p =>
      obtain ⟨t1, rfl, ht1⟩ := td_pt hx
      obtain ⟨a1, a2, a3, a4, u, k, rs, z, b1, b2, b3, b4, b5⟩ := hW.back e t p he
      refine ite_ndf (by simp) ?_
      have hD1 := dc_same sm hD
      have ne1 : t1 ≠ fl := fun z => by rw [z, hys] at ht1; cases ht1
      walk_at "ss"
      refine di_get (by walk_at "dc") (wfD_some b1) fun v2 hv2 => ?_
      obtain ⟨t2, u2, rfl, ht2, hu2⟩ := td_we hv2
      walk_at "ss"
      have hcons : cutF f M e = cutF f (M - 1) p.1 ++ [p] := by
        cases M with
        | zero => simp at hM; omega
        | succ M => rw [cutF, he]; rfl
      refine ⟨(p.1 - c).toNat, by omega, p.1, u, u2, .ref t1 :: ys, p :: L, M - 1, rfl, sm_own hfl sm, upd_same, ?_, ?_, b1, hu2, by omega, by rw [hc, hcons, List.append_assoc]; rfl, rfl⟩
      · exact tds_put hys (.cons hx hT)
      · rw [List.length_cons]
        push_cast
        omega
  · intro σ H Q Q' h q
    obtain ⟨x, hx, a, b⟩ := q
    exact ⟨x, hx, a, by obtain ⟨k, e1, e2⟩ := b; exact ⟨k, e1, h _ _ e2⟩⟩
def t_paper_by (K : PySem.W.Frag) : TS :=
  (tSeq (tAsg (tCB (rMax K) (tCons (tLockE (tLc (iVals (tVar 0)) (gTup K 2 (gCons (gName 6) (gCons (gName 7) gNil))) tYes (tVar 6) [6, 7])) tNil)) (gName 2))
  (tSeq (tAsg (tLc (iRng2 (tCons (tOp (rIxT K) (tVar 1) (tC (.int 0))) (tCons (tOp rAdd (tOp (rIxT K) (tVar 1) (tC (.int 1))) (tC (.int 1))) tNil))) (gName 4) tYes (tIf (tB (tDIn (tVar 4) (tVar 0))) (tOp (rIxT K) (tDGet (tVar 0) (tVar 4)) (tC (.int 0))) (tVar 2)) [4]) (gName 3))
  (tRet (tLc (iRng1 (tCons (tOp rSub (tCB (rLen K) (tCons (tVar 3) tNil)) (tC (.int 1))) tNil)) (gName 5) tYes (tOp rSub (tOp (rIxL K) (tVar 3) (tOp rAdd (tVar 5) (tC (.int 1)))) (tOp (rIxL K) (tVar 3) (tVar 5))) [5]))))
theorem pure_paper_by {K : PySem.W.Frag} {v y : V} {H : Hp} {Q : VK} {E : XK} (h : sp_paper_by K [v, y] H Q E) : t_paper_by K { nx := fun _ H' => Q .non H', rt := Q } [some v, some y, none, none, none, none, none, none] H := by
  obtain ⟨v, y, e, dd, a, bs, c, g, n, f, rfl, rfl, hS, ⟨c0, c1, c2, c3⟩, hD, hW, q⟩ := h
  cases e
  unfold t_paper_by
  with_reducible refine g_seqA ?_
  with_reducible refine g_asg ?_
  with_reducible refine g_cb ?_
  with_reducible refine g_cons ?_
  obtain ⟨kvs, ks, h1, h2, h3, h4⟩ := hD
  have hD : DicI H dd (wfD f) := ⟨kvs, ks, h1, h2, h3, h4⟩
  have rng : ∀ j, (wfD f j).isSome = true → c ≤ j ∧ j < c + (15 : Nat) := fun j hj => by
    rw [wfD_is] at hj
    obtain ⟨w, hw⟩ := Option.isSome_iff_exists.mp hj
    have := hW.rng j w hw
    omega
  have hl := dic_len h2 h3 h4 rng
  refine ⟨dd, .dK kvs, h1, trivial, fun od => ?_⟩
  have tk1 : Tk H (upd H dd (.frz od (.dK kvs))) := fun b xs e => at_ne (fun z => by rw [z, h1] at e; cases e) e
  have a1 : (upd H dd (.frz od (.dK kvs))) dd = some (.frz od (.dK kvs)) := upd_same
  have val : ∀ (i : Nat) (k : Key) (x : V), kvs[i]? = some (k, x) → ∃ (j : Int) (w : We), ks[i]? = some j ∧ f j = some w ∧ Td H x (weD w) := fun i k x hx => by
    have hk : (kvs.map (·.1))[i]? = some k := by rw [List.getElem?_map, hx]; rfl
    rw [h2, List.getElem?_map] at hk
    cases hj : ks[i]? with
    | none => rw [hj] at hk; cases hk
    | some j =>
      rw [hj] at hk
      obtain rfl : Sum.inl j = k := Option.some.inj hk
      have nd : (kvs.map (·.1)).Nodup := by
        rw [h2]
        exact List.Pairwise.map _ (fun a b hab z => hab (Sum.inl.inj z)) h3
      have hv := val_nodup nd _ (List.mem_of_getElem? hx)
      have h5 := h4 j
      rw [hv] at h5
      unfold wfD at h5
      cases hf : f j with
      | none => rw [hf] at h5; exact h5.elim
      | some w => rw [hf] at h5; exact ⟨j, w, rfl, hf, h5⟩
  generalize hG : upd H dd (.frz od (.dK kvs)) = G at tk1 a1
  walk_at "ss"
  refine g_iVals ?_
  walk_at "ss"
  refine ⟨dd, od, kvs, rfl, a1, ?_⟩
  refine lc_w (f := fun i => (ks[i]?).bind fun j => some (V.int (costF f j))) (walk_vals (d := dd) (o := od) (kvs := kvs)) (by omega) (fun H' s => s _ _ a1) ?_ ?_
  · rintro D i x H2 H3 N hDf hi s2 ⟨rfl, k, hx⟩ hy hn
    obtain ⟨j, w, hj, hf, hv⟩ := val i k x hx
    obtain ⟨t, u, rfl, ht, -⟩ := td_we (hv.tk (tk1.trans (Same.tk s2)))
    walk_at "ss"
    exact hy _ _ (by rw [hj, Option.bind_some]; unfold costF; rw [hf]; rfl) (Same.refl _)
  intro D H2 hDf s2 h2'
  rw [show kvs.length = ks.length from hl.2, range_flt ks (fun j => some (V.int (costF f j))), fm_map] at h2'
  have dne : D ≠ dd := fun z => by rw [z] at hDf; rw [hDf] at a1; cases a1
  refine ⟨s2 _ _ a1, ?_⟩
  have sm : Same H (upd H2 dd (.dK kvs)) := unlock_same h1 (hG ▸ s2)
  have h2'' : upd H2 dd (.dK kvs) D = some (.lst ((ks.map (costF f)).map V.int)) := by
    rw [List.map_map]
    exact at_ne dne h2'
  have cin : c ∈ ks := (dic_keys h2 h4 c).mpr (by rw [wfD_is, hW.start]; rfl)
  have hDD : DicI (upd H2 dd (.dK kvs)) dd (wfD f) := dc_same sm hD
  have SS : SqT K (upd H2 dd (.dK kvs)) a [.int c, .int g] := Same.seqT sm hS
  generalize upd H2 dd (.dK kvs) = H3 at sm h2'' hDD SS
  walk_at "ss"
  refine g_max (SqL.of h2'') (by rw [List.length_map]; exact List.length_pos_of_mem cin) fun m hm hle => ?_
  have hmost : m = mostF f c g := by
    refine most_is hW ?_ fun d w hd => ?_
    · obtain ⟨j, hj, rfl⟩ := List.mem_map.mp hm
      have := (dic_keys h2 h4 j).mp hj
      rw [wfD_is] at this
      obtain ⟨w, hw⟩ := Option.isSome_iff_exists.mp this
      exact ⟨j, w, hw, by unfold costF; rw [hw]; rfl⟩
    · have hd' : d ∈ ks := (dic_keys h2 h4 d).mpr (by rw [wfD_is, hd]; rfl)
      have := hle (costF f d) (List.mem_map.mpr ⟨d, hd', rfl⟩)
      unfold costF at this
      rw [hd] at this
      exact this
  subst hmost
  walk_at "ss"
  have dl := days_len c (g + 1)
  refine lc_w (f := fun i => ((days c (g + 1))[i]?).bind fun d => some (V.int (heightF f c g d))) walk_range (by omega) (fun _ _ => trivial) ?_ ?_
  · rintro D i x H4 H5 N hDf hi s4 ⟨rfl, rfl⟩ hy hn
    have hdk : (days c (g + 1))[i]? = some (c + (i : Int)) := days_get (by omega)
    have hD4 := dc_same s4 hDD
    walk_at "ss"
    cases hf : f (c + (i : Int)) with
    | none =>
      rw [wfD_is, hf]
      refine ite_f rfl ?_
      walk_at "ss"
      exact hy _ _ (by rw [hdk, Option.bind_some]; unfold heightF; rw [hf]) (Same.refl _)
    | some w =>
      rw [wfD_is, hf]
      refine ite_t rfl ?_
      walk_at "ss"
      refine di_get hD4 (wfD_some hf) fun v2 hv2 => ?_
      obtain ⟨t2, u2, rfl, ht2, -⟩ := td_we hv2
      walk_at "ss"
      exact hy _ _ (by rw [hdk, Option.bind_some]; unfold heightF; rw [hf]) (Same.refl _)
  intro D4 H4 hD4f s4 h4'
  rw [← dl, range_flt (days c (g + 1)) (fun d => some (V.int (heightF f c g d))), fm_map] at h4'
  rw [show (days c (g + 1)).map (fun d => V.int (heightF f c g d)) = ((days c (g + 1)).map (heightF f c g)).map V.int by rw [List.map_map]; rfl] at h4'
  have hlen : (((days c (g + 1)).map (heightF f c g)).map V.int).length = (g + 1 - c).toNat := by rw [List.length_map, List.length_map, dl]
  walk_at "ss"
  have dl2 := days_len c g
  refine lc_w (f := fun i => ((days c g)[i]?).bind fun d => some (V.int (heightF f c g (d + 1) - heightF f c g d))) walk_range (by rw [hlen]; omega) (fun _ _ => trivial) ?_ ?_
  · rintro D i x H5 H6 N hDf hi s5 ⟨rfl, rfl⟩ hy hn
    rw [hlen] at hi
    have hdk : (days c g)[i]? = some (c + (i : Int)) := days_get (by omega)
    have h5 := s5 _ _ h4'
    walk_at "ss"
    refine g_ixL (SqL.of h5) (days_atF _ (by omega) (by omega)) ?_
    walk_at "ss"
    refine g_ixL (SqL.of h5) (days_atF _ (by omega) (by omega)) ?_
    walk_at "ss"
    exact hy _ _ (by rw [hdk, Option.bind_some, Int.zero_add, ← Int.add_assoc]) (Same.refl _)
  intro D5 H5 hD5f s5 h5
  rw [hlen, show (((g + 1 - c).toNat : Int) - 1).toNat = (days c g).length by omega, range_flt (days c g) (fun d => some (V.int (heightF f c g (d + 1) - heightF f c g d))), fm_map] at h5
  refine q D5 H5 ((sm.trans s4).trans s5) (fr_of hD5f (sm.trans s4)) ?_
  unfold paperF
  rw [List.map_map]
  exact h5
def t_best (K : PySem.W.Frag) : TS :=
  (tSeq (tAsg (tCall (sp_ways K) [] E0 (tCons (tVar 0) (tCons (tVar 1) tNil))) (gName 2))
  (tSeq (tIfS (tB (tDNotIn (tOp (rIxT K) (tVar 1) (tC (.int 1))) (tVar 2)))
  (tRet (tTup (tCons (tC (.str "off")) (tCons (tCB Y.rSortDI (tCons (tVar 2) tNil)) tNil))))
  tNext)
  (tRet (tTup (tCons (tC (.str "had")) (tCons (tOp (rIxT K) (tDGet (tVar 2) (tOp (rIxT K) (tVar 1) (tC (.int 1)))) (tC (.int 0))) (tCons (tCall (sp_cut_by K) [] E0 (tCons (tVar 2) (tCons (tOp (rIxT K) (tVar 1) (tC (.int 1))) tNil))) (tCons (tCall (sp_paper_by K) [] E0 (tCons (tVar 2) (tCons (tVar 1) tNil))) tNil))))))))
theorem pure_best {K : PySem.W.Frag} {v y : V} {H : Hp} {Q : VK} {E : XK} (h : sp_best K [v, y] H Q E) : t_best K { nx := fun _ H' => Q .non H', rt := Q } [some v, some y, none] H := by
  obtain ⟨v, y, e, cf, cb, p, a, vs, bs, c, g, rfl, rfl, B, q1, q2⟩ := h
  cases e
  unfold t_best
  obtain ⟨c0, c1, c2, c3⟩ := B.stay
  have hW := ways_WI bs (show c ≤ g by omega)
  walk_at "ss"
  refine g_ways cf cb B fun dd H1 s1 f1 hD => ?_
  have S1 := Same.seqT s1 B.st
  walk_at "ss"
  cases hg : waysF bs c g g with
  | none =>
    rw [wfD_is, hg]
    refine ite_t rfl ?_
    walk_at "ss"
    refine g_sortDI (m := shutL bs c g) hD ?_ (fun x => ?_) ?_ fun l hl => ?_
    · unfold shutL shutF
      refine List.Pairwise.filter _ ?_
      unfold days
      rw [List.pairwise_map]
      exact List.pairwise_lt_range.imp fun h => by omega
    · unfold shutL shutF
      rw [wfD_is, List.mem_filter, mem_days]
      constructor
      · intro h
        obtain ⟨w, hw⟩ := Option.isSome_iff_exists.mp h
        have := hW.rng x w hw
        exact ⟨by omega, h⟩
      · exact fun h => h.2
    · unfold shutL shutF
      refine Nat.lt_of_le_of_lt (List.length_filter_le _ _) ?_
      rw [days_len]
      omega
    walk_at "ss"
    rename_i tp htp
    exact q1 (by unfold offB; rw [hg]; rfl) tp l _ (sm_new htp (sm_new hl s1)) (fr_of htp (sm_new hl s1)) (fr_of hl s1) upd_same (at_new htp upd_same)
  | some w =>
    rw [wfD_is, hg]
    refine ite_f rfl ?_
    walk_at "ss"
    refine di_get hD (wfD_some hg) fun v2 hv2 => ?_
    obtain ⟨t2, u2, rfl, ht2, -⟩ := td_we hv2
    walk_at "ss"
    refine g_cut_by hD hW (by omega) hg fun l ys H2 s2 f2 hl2 hT2 => ?_
    have S2 := Same.seqT s2 S1
    have hD2 := dc_same s2 hD
    walk_at "ss"
    refine g_paper_by S2 ⟨c0, c1, c2, c3⟩ hD2 hW fun r H3 s3 f3 hl3 => ?_
    walk_at "ss"
    rename_i tp htp
    have e1 : coinsL bs c g = w.1 := by unfold coinsL costF; rw [hg]; rfl
    have hne : l ≠ r := fun z => by rw [← z] at f3; rw [f3] at hl2; cases hl2
    exact q2 (by unfold offB; rw [hg]; rfl) tp l r ys _ (sm_new htp ((s1.trans s2).trans s3)) (fr_of htp ((s1.trans s2).trans s3)) (fr_of f2 s1) (fr_of f3 (s1.trans s2)) hne (by rw [e1]; exact upd_same) (at_new htp (s3 _ _ hl2)) (tds_new htp (tds_same s3 hT2)) (at_new htp hl3)
/-! YCs: what a stay costs that can be had. -/
open PySem PySem.Spec PyProof.Rows L2
/-- what a stay costs that can be had -/
def sp_cost (K : PySem.W.Frag) : Sp := Sp2 fun v y H Q E => CFR K ∧ CFB K ∧ ∃ rs c g, BkOk K H v y rs c g ∧ hadB rs c g = true ∧ ∀ H', Same H H' → Q (.int (sumD rs c g)) H'
theorem g_cost {K : PySem.W.Frag} {F : List Addr} {rs : List RuleD} {a : Addr} {c g : Int} {v : V} {H : Hp} {Q : VK} {E : XK} (cf : CFR K) (cb : CFB K) (h : BookAt K H F v rs) (gd : ∀ r ∈ rs, RuleD.good r) (s : SqT K H a [.int c, .int g]) (b : c ≤ g ∧ g ≤ c + 900 ∧ -10000000 ≤ c ∧ c ≤ 10000000) (hd : hadB rs c g = true)
    (q : ∀ H', Same H H' → Q (.int (sumD rs c g)) H') : sp_cost K ([v, .ref a] ++ []) H Q E := ⟨_, _, rfl, cf, cb, rs, c, g, ⟨F, a, rfl, h, gd, s, b⟩, hd, q⟩
def t_cost (K : PySem.W.Frag) : TS :=
  (tSeq (tAsg (tCall (sp_coins_of K) [] E0 (tCons (tVar 0) (tCons (tVar 1) tNil))) (gName 2))
  (tSeq (tIfS (tTest (tOp rIsN (tVar 2) (tC .non)))
  tNever
  tNext)
  (tRet (tVar 2))))
theorem pure_cost {K : PySem.W.Frag} {v y : V} {H : Hp} {Q : VK} {E : XK} (h : sp_cost K [v, y] H Q E) : t_cost K { nx := fun _ H' => Q .non H', rt := Q } [some v, some y, none] H := by
  obtain ⟨v, y, e, cf, cb, rs, c, g, ⟨F, a, rfl, B, gd, hS, ⟨b0, b1, b2, b3⟩⟩, hd, q⟩ := h
  cases e
  unfold t_cost
  walk_at "ss"
  refine g_coins cf cb B gd hS ⟨b0, b1, b2, b3⟩ fun H1 s1 => ?_
  rw [if_pos hd]
  walk_at "ss"
  with_reducible refine g_seq ?_
  walk_at "ss"
  refine ite_df (by simp) ?_
  walk_at "ss"
  exact q H1 s1
/-! Y9: the laws' drawn rules. -/
open PySem PySem.Spec PyProof.Rows L2
def sp_Lcoins (K : PySem.W.Frag) : Sp := Sp1 fun x H Q E => ∃ (t b s : Addr), x = .ref t ∧ Tape H t b s ∧ ∀ (i : Int) (H' : Hp), Tape H' t b s → Kp [t, b] H H' → 0 ≤ i → i ≤ 1000000000000 → Q (.int i) H'
theorem g_Lcoins {K : PySem.W.Frag} {t b s : Addr} {H : Hp} {Q : VK} {E : XK} (T : Tape H t b s) (q : ∀ (i : Int) (H' : Hp), Tape H' t b s → Kp [t, b] H H' → 0 ≤ i → i ≤ 1000000000000 → Q (.int i) H') : sp_Lcoins K ([.ref t] ++ []) H Q E := ⟨_, rfl, t, b, s, rfl, T, q⟩
def sp_Lworth (K : PySem.W.Frag) : Sp := Sp2 fun x y H Q E => ∃ (t b s : Addr) (w : Wd), x = .ref t ∧ y = .str w.word ∧ Tape H t b s ∧ ∀ (v : V) (d : PyData) (H' : Hp), Tape H' t b s → Kp [t, b] H H' → Td H' v d → fitsD w d = true → Q v H'
theorem g_Lworth {K : PySem.W.Frag} {t b s : Addr} {w : Wd} {H : Hp} {Q : VK} {E : XK} (T : Tape H t b s) (q : ∀ (v : V) (d : PyData) (H' : Hp), Tape H' t b s → Kp [t, b] H H' → Td H' v d → fitsD w d = true → Q v H') : sp_Lworth K ([.ref t, .str w.word] ++ []) H Q E := ⟨_, _, rfl, t, b, s, w, rfl, rfl, T, q⟩
def sp_Lrule (K : PySem.W.Frag) : Sp := Sp2 fun x y H Q E => ∃ (t b s : Addr) (m : Int), x = .ref t ∧ y = .int m ∧ Tape H t b s ∧ 0 ≤ m ∧ m ≤ 999960 ∧ ∀ (v : V) (r : RuleD) (H' : Hp), Tape H' t b s → Kp [t, b] H H' → RuT H' v r → r.good → Q v H'
def sp_Lbase (K : PySem.W.Frag) : Sp := Sp1 fun x H Q E => ∃ (t b s : Addr), x = .ref t ∧ Tape H t b s ∧ ∀ (i : Int) (H' : Hp), Tape H' t b s → Kp [t, b] H H' → 0 ≤ i → i ≤ 999960 → Q (.int i) H'
theorem coins_ok {i : Int} (h0 : 0 ≤ i) (h1 : i ≤ 1000000000000) : isCoins (.int i) = true := by
  unfold isCoins
  simp [h0, h1]
theorem nights_ok {i : Int} (h0 : 1 ≤ i) (h1 : i ≤ 14) : isNights (.int i) = true := by
  unfold isNights
  simp [h0, h1]
theorem deal_ok {m f : Int} (h0 : 1 ≤ m) (h1 : m ≤ 14) (h2 : 1 ≤ f) (h3 : f < m) : isDeal (.tuple [.int m, .int f]) = true := by
  show (isNights (.int m) && (decide (1 ≤ f) && decide (f < m))) = true
  rw [nights_ok h0 h1, decide_eq_true h2, decide_eq_true h3]
  rfl
theorem word_of {v : V} (h : v ∈ [V.str "price", .str "come", .str "go", .str "least", .str "most", .str "deal", .str "fee"]) : ∃ w : Wd, v = .str w.word := by
  simp only [List.mem_cons, List.not_mem_nil, or_false] at h
  rcases h with rfl | rfl | rfl | rfl | rfl | rfl | rfl
  · exact ⟨.price, rfl⟩
  · exact ⟨.come, rfl⟩
  · exact ⟨.go, rfl⟩
  · exact ⟨.least, rfl⟩
  · exact ⟨.most, rfl⟩
  · exact ⟨.deal, rfl⟩
  · exact ⟨.fee, rfl⟩
def t_Lcoins (K : PySem.W.Frag) : TS :=
  (tRet (tOp (rIxL K) (tLst (tCons (tC (.int 0)) (tCons (tCall (sp_Ldraw K) [] E0 (tCons (tVar 0) (tCons (tC (.int 60)) tNil))) (tCons (tCall (sp_Ldraw K) [] E0 (tCons (tVar 0) (tCons (tC (.int 60)) tNil))) (tCons (tOp rPow (tC (.int 10)) (tC (.int 12))) (tCons (tCall (sp_Ldraw K) [] E0 (tCons (tVar 0) (tCons (tOp rAdd (tOp rPow (tC (.int 10)) (tC (.int 12))) (tC (.int 1))) tNil))) tNil)))))) (tCall (sp_Ldraw K) [] E0 (tCons (tVar 0) (tCons (tC (.int 5)) tNil)))))
theorem pure_Lcoins {K : PySem.W.Frag} {x : V} {H : Hp} {Q : VK} {E : XK} (h : sp_Lcoins K [x] H Q E) : t_Lcoins K { nx := fun _ H' => Q .non H', rt := Q } [some x] H := by
  obtain ⟨x, e, t, b, s, rfl, T, q⟩ := h
  cases e
  unfold t_Lcoins
  walk_at "ss"
  rename_i a H1 a0 a1 T1 k1 c H2 c0 c1 T2 k2 d H3 d0 d1 T3 k3 p hp e H4 e0 e1 T4 k4 v hv
  exact q v _ (by walk_at "tp") (by walk_at "kp") (by rcases hv with h | h | h | h | h <;> omega) (by rcases hv with h | h | h | h | h <;> omega)
def t_Lworth (K : PySem.W.Frag) : TS :=
  (tSeq (tIfS (tTest (tOp rEq (tVar 1) (tC (.str "price"))))
  (tRet (tOp (rIxL K) (tLst (tCons (tC .non) (tCons (tCall (sp_Lcoins K) [] E0 (tCons (tVar 0) tNil)) (tCons (tCall (sp_Lcoins K) [] E0 (tCons (tVar 0) tNil)) tNil)))) (tCall (sp_Ldraw K) [] E0 (tCons (tVar 0) (tCons (tC (.int 3)) tNil)))))
  tNext)
  (tSeq (tIfS (tOr (tTest (tOp rEq (tVar 1) (tC (.str "come")))) (tTest (tOp rEq (tVar 1) (tC (.str "go")))))
  (tRet (tOp rEq (tCall (sp_Ldraw K) [] E0 (tCons (tVar 0) (tCons (tC (.int 2)) tNil))) (tC (.int 0))))
  tNext)
  (tSeq (tIfS (tOr (tTest (tOp rEq (tVar 1) (tC (.str "least")))) (tTest (tOp rEq (tVar 1) (tC (.str "most")))))
  (tRet (tOp rAdd (tC (.int 1)) (tCall (sp_Ldraw K) [] E0 (tCons (tVar 0) (tCons (tC (.int 14)) tNil)))))
  tNext)
  (tSeq (tIfS (tTest (tOp rEq (tVar 1) (tC (.str "deal"))))
  (tSeq (tAsg (tOp rAdd (tC (.int 2)) (tCall (sp_Ldraw K) [] E0 (tCons (tVar 0) (tCons (tC (.int 13)) tNil)))) (gName 2))
  (tRet (tOp (rIxL K) (tLst (tCons (tC .non) (tCons (tTup (tCons (tVar 2) (tCons (tOp rAdd (tC (.int 1)) (tCall (sp_Ldraw K) [] E0 (tCons (tVar 0) (tCons (tOp rSub (tVar 2) (tC (.int 1))) tNil)))) tNil))) (tCons (tTup (tCons (tC (.int 2)) (tCons (tC (.int 1)) tNil))) (tCons (tTup (tCons (tVar 2) (tCons (tOp rSub (tVar 2) (tC (.int 1))) tNil))) tNil))))) (tCall (sp_Ldraw K) [] E0 (tCons (tVar 0) (tCons (tC (.int 4)) tNil))))))
  tNext)
  (tRet (tCall (sp_Lcoins K) [] E0 (tCons (tVar 0) tNil)))))))
theorem pure_Lworth {K : PySem.W.Frag} {x y : V} {H : Hp} {Q : VK} {E : XK} (h : sp_Lworth K [x, y] H Q E) : t_Lworth K { nx := fun _ H' => Q .non H', rt := Q } [some x, some y, none] H := by
  obtain ⟨x, y, e, t, b, s, w, rfl, rfl, T, q⟩ := h
  cases e
  unfold t_Lworth
  cases w with
  | price =>
    walk_at "ss"
    refine ite_dt rfl ?_
    walk_at "ss"
    rename_i i H1 T1 k1 i0 i1 j H2 T2 k2 j0 j1 p hp m H3 m0 m1 T3 k3 v hv
    simp only [List.mem_cons, List.not_mem_nil, or_false] at hv
    rcases hv with rfl | rfl | rfl
    · exact q _ .none _ T3 (by walk_at "kp") .non rfl
    · exact q _ (.int i) _ T3 (by walk_at "kp") (.int _) (coins_ok i0 i1)
    · exact q _ (.int j) _ T3 (by walk_at "kp") (.int _) (coins_ok j0 j1)
  | come =>
    walk_at "ss"
    refine ite_df (by decide) ?_
    walk_at "ss"
    refine ite_dt rfl ?_
    walk_at "ss"
    exact q _ (.bool _) _ (by walk_at "tp") (by walk_at "kp") (.bl _) rfl
  | go =>
    walk_at "ss"
    refine ite_df (by decide) ?_
    walk_at "ss"
    refine ite_df (by decide) ?_
    walk_at "ss"
    refine ite_dt rfl ?_
    walk_at "ss"
    exact q _ (.bool _) _ (by walk_at "tp") (by walk_at "kp") (.bl _) rfl
  | least =>
    walk_at "ss"
    refine ite_df (by decide) ?_
    walk_at "ss"
    refine ite_df (by decide) ?_
    walk_at "ss"
    refine ite_df (by decide) ?_
    walk_at "ss"
    refine ite_dt rfl ?_
    walk_at "ss"
    exact q _ (.int _) _ (by walk_at "tp") (by walk_at "kp") (.int _) (nights_ok (by omega) (by omega))
  | most =>
    walk_at "ss"
    refine ite_df (by decide) ?_
    walk_at "ss"
    refine ite_df (by decide) ?_
    walk_at "ss"
    refine ite_df (by decide) ?_
    walk_at "ss"
    refine ite_df (by decide) ?_
    walk_at "ss"
    refine ite_dt rfl ?_
    walk_at "ss"
    exact q _ (.int _) _ (by walk_at "tp") (by walk_at "kp") (.int _) (nights_ok (by omega) (by omega))
  | deal =>
    walk_at "st"
    refine ite_df (by decide) ?_
    walk_at "st"
    refine ite_df (by decide) ?_
    walk_at "st"
    refine ite_df (by decide) ?_
    walk_at "st"
    refine ite_df (by decide) ?_
    walk_at "st"
    refine ite_df (by decide) ?_
    walk_at "st"
    refine ite_dt rfl ?_
    walk_at "st"
    rename_i m H1 m0 m1 T1 k1 f H2 f0 f1 T2 k2 p1 hp1 p2 hp2 p3 hp3 l hl z H3 z0 z1 T3 k3 v hv
    simp only [List.mem_cons, List.not_mem_nil, or_false] at hv
    rcases hv with rfl | rfl | rfl | rfl
    · exact q _ .none _ T3 (by walk_at "kp") .non rfl
    · exact q _ (.tuple [.int _, .int _]) _ T3 (by walk_at "kp") (by walk_at "td") (deal_ok (by omega) (by omega) (by omega) (by omega))
    · exact q _ (.tuple [.int _, .int _]) _ T3 (by walk_at "kp") (by walk_at "td") (deal_ok (by omega) (by omega) (by omega) (by omega))
    · exact q _ (.tuple [.int _, .int _]) _ T3 (by walk_at "kp") (by walk_at "td") (deal_ok (by omega) (by omega) (by omega) (by omega))
  | fee =>
    walk_at "st"
    refine ite_df (by decide) ?_
    walk_at "st"
    refine ite_df (by decide) ?_
    walk_at "st"
    refine ite_df (by decide) ?_
    walk_at "st"
    refine ite_df (by decide) ?_
    walk_at "st"
    refine ite_df (by decide) ?_
    walk_at "st"
    refine ite_df (by decide) ?_
    walk_at "st"
    exact q _ (.int _) _ (by walk_at "tp") (by walk_at "kp") (.int _) (coins_ok (by assumption) (by assumption))
/-! YL: drawn rules of prices and others; drawn stays. -/
open PySem PySem.Spec PyProof.Rows L2
def QRul (t b s : Addr) (n : Nat) (H : Hp) (Q : VK) : Prop := ∀ (p : Addr) (ys : List V) (rs : List RuleD) (H' : Hp), Tape H' t b s → Kp [t, b] H H' → Fr H p → H' p = some (.lst ys) → Rus H' ys rs → rs.length ≤ n → (∀ r ∈ rs, RuleD.good r) → Q (.ref p) H'
def BD (m n : Int) : Prop := 0 ≤ m ∧ 1 ≤ n ∧ m + n ≤ 999995
def sp_Lprice_rules (K : PySem.W.Frag) : Sp := Sp3 fun x y z H Q E => ∃ (t b s : Addr) (m n : Int), x = .ref t ∧ y = .int m ∧ z = .int n ∧ Tape H t b s ∧ BD m n ∧ QRul t b s 5 H Q
def sp_Lother_rules (K : PySem.W.Frag) : Sp := Sp3 fun x y z H Q E => ∃ (t b s : Addr) (m n : Int), x = .ref t ∧ y = .int m ∧ z = .int n ∧ Tape H t b s ∧ BD m n ∧ QRul t b s 5 H Q
def sp_Lrules (K : PySem.W.Frag) : Sp := Sp3 fun x y z H Q E => ∃ (t b s : Addr) (m n : Int), x = .ref t ∧ y = .int m ∧ z = .int n ∧ Tape H t b s ∧ BD m n ∧ QRul t b s 10 H Q
def sp_Lstay (K : PySem.W.Frag) : Sp := Sp3 fun x y z H Q E => ∃ (t b s : Addr) (m n : Int), x = .ref t ∧ y = .int m ∧ z = .int n ∧ Tape H t b s ∧ BD m n ∧ ∀ (p : Addr) (c g : Int) (H' : Hp), Tape H' t b s → Kp [t, b] H H' → Fr H p → H' p = some (.tup [.int c, .int g]) → m ≤ c → c < g → g ≤ m + n → g - c ≤ n → Q (.ref p) H'
theorem g_Lprules {K : PySem.W.Frag} {t b s : Addr} {m n : Int} {H : Hp} {Q : VK} {E : XK} (T : Tape H t b s) (c : 0 ≤ m ∧ 1 ≤ n ∧ m + n ≤ 999995) (q : ∀ (p : Addr) (ys : List V) (rs : List RuleD) (H' : Hp), Tape H' t b s → Kp [t, b] H H' → Fr H p → H' p = some (.lst ys) → Rus H' ys rs → rs.length ≤ 5 → (∀ r ∈ rs, RuleD.good r) → Q (.ref p) H') : sp_Lprice_rules K ([.ref t, .int m, .int n] ++ []) H Q E :=
  ⟨_, _, _, rfl, t, b, s, m, n, rfl, rfl, rfl, T, c, q⟩
theorem g_Lorules {K : PySem.W.Frag} {t b s : Addr} {m n : Int} {H : Hp} {Q : VK} {E : XK} (T : Tape H t b s) (c : 0 ≤ m ∧ 1 ≤ n ∧ m + n ≤ 999995) (q : ∀ (p : Addr) (ys : List V) (rs : List RuleD) (H' : Hp), Tape H' t b s → Kp [t, b] H H' → Fr H p → H' p = some (.lst ys) → Rus H' ys rs → rs.length ≤ 5 → (∀ r ∈ rs, RuleD.good r) → Q (.ref p) H') : sp_Lother_rules K ([.ref t, .int m, .int n] ++ []) H Q E :=
  ⟨_, _, _, rfl, t, b, s, m, n, rfl, rfl, rfl, T, c, q⟩
theorem g_Lrules {K : PySem.W.Frag} {t b s : Addr} {m n : Int} {H : Hp} {Q : VK} {E : XK} (T : Tape H t b s) (c : 0 ≤ m ∧ 1 ≤ n ∧ m + n ≤ 999995) (q : ∀ (p : Addr) (ys : List V) (rs : List RuleD) (H' : Hp), Tape H' t b s → Kp [t, b] H H' → Fr H p → H' p = some (.lst ys) → Rus H' ys rs → rs.length ≤ 10 → (∀ r ∈ rs, RuleD.good r) → Q (.ref p) H') : sp_Lrules K ([.ref t, .int m, .int n] ++ []) H Q E :=
  ⟨_, _, _, rfl, t, b, s, m, n, rfl, rfl, rfl, T, c, q⟩
theorem g_Lstay {K : PySem.W.Frag} {t b s : Addr} {m n : Int} {H : Hp} {Q : VK} {E : XK} (T : Tape H t b s) (c : 0 ≤ m ∧ 1 ≤ n ∧ m + n ≤ 999995) (q : ∀ (p : Addr) (c g : Int) (H' : Hp), Tape H' t b s → Kp [t, b] H H' → Fr H p → H' p = some (.tup [.int c, .int g]) → m ≤ c → c < g → g ≤ m + n → g - c ≤ n → Q (.ref p) H') : sp_Lstay K ([.ref t, .int m, .int n] ++ []) H Q E :=
  ⟨_, _, _, rfl, t, b, s, m, n, rfl, rfl, rfl, T, c, q⟩
theorem fits_coin {i : Int} (h0 : 0 ≤ i) (h1 : i ≤ 1000000000000) : fitsD .price (.int i) = true := by
  show (isNone (.int i) || isCoins (.int i)) = true
  rw [coins_ok h0 h1]
  rfl
theorem word_of6 {v : V} (h : v ∈ [V.str "come", .str "go", .str "least", .str "most", .str "deal", .str "fee"]) : ∃ w : Wd, v = .str w.word := word_of (List.mem_cons_of_mem _ h)
theorem gd_snoc {rs : List RuleD} {r : RuleD} (h : ∀ r ∈ rs, RuleD.good r) (g : r.good) : ∀ r' ∈ rs ++ [r], RuleD.good r' := gd_app h (by simpa using g)
def t_Lprice_rules (K : PySem.W.Frag) : TS :=
  (tSeq (tAsg (tLst (tCons (tTup (tCons (tC (.str "price")) (tCons (tVar 1) (tCons (tOp rAdd (tVar 1) (tVar 2)) (tCons (tCall (sp_Lcoins K) [] E0 (tCons (tVar 0) tNil)) tNil))))) tNil)) (gName 3))
  (tSeq (tFor (iRng1 (tCons (tCall (sp_Ldraw K) [] E0 (tCons (tVar 0) (tCons (tC (.int 5)) tNil))) tNil)) (gName 4)
  (tSeq (tAsg (tOp rAdd (tVar 1) (tCall (sp_Ldraw K) [] E0 (tCons (tVar 0) (tCons (tVar 2) tNil)))) (gName 5))
  (tSeq (tAsg (tOp (rIxL K) (tLst (tCons (tC .non) (tCons (tCall (sp_Lcoins K) [] E0 (tCons (tVar 0) tNil)) (tCons (tCall (sp_Lcoins K) [] E0 (tCons (tVar 0) tNil)) (tCons (tCall (sp_Lcoins K) [] E0 (tCons (tVar 0) tNil)) tNil))))) (tCall (sp_Ldraw K) [] E0 (tCons (tVar 0) (tCons (tC (.int 4)) tNil)))) (gName 6))
  (tDrop (tBM K "list" rAppend (tVar 3) (tCons (tTup (tCons (tC (.str "price")) (tCons (tVar 5) (tCons (tOp rAdd (tVar 5) (tCall (sp_Ldraw K) [] E0 (tCons (tVar 0) (tCons (tC (.int 4)) tNil)))) (tCons (tVar 6) tNil))))) tNil))))))
  (tRet (tVar 3))))
theorem pure_Lprice_rules {K : PySem.W.Frag} {x y z : V} {H : Hp} {Q : VK} {E : XK} (h : sp_Lprice_rules K [x, y, z] H Q E) : t_Lprice_rules K { nx := fun _ H' => Q .non H', rt := Q } [some x, some y, some z, none, none, none, none] H := by
  obtain ⟨x, y, z, e, t, b, s, m, n, rfl, rfl, rfl, T, ⟨m0, n0, mn⟩, q⟩ := h
  cases e
  unfold t_Lprice_rules
  walk_at "ss"
  rename_i c1 H1 T1 k1 c10 c11 tp htp D hD d H2 d0 d1 T2 k2
  have fD1 : Fr H1 D := fr_new hD
  have fD : Fr H D := fr_kp fD1 k1 (ni_tape fD1 T1)
  have nD : D ∉ [t, b] := ni_tape fD1 T1
  have hD2 : H2 D = some (.lst [.ref tp]) := by walk_at "at"
  have htp2 : H2 tp = some (.tup [.str Wd.price.word, .int m, .int (m + n), .int c1]) := at_tk k2 (tape_new hD (tape_new htp T1)) (at_new hD upd_same)
  have r0 : Rus H2 [.ref tp] [⟨.price, m, m + n, .int c1⟩] := .cons (ru_one htp2 (.int _)) .nil
  have g0 : ∀ r ∈ [(⟨.price, m, m + n, .int c1⟩ : RuleD)], RuleD.good r := fun r hr => by
    rw [List.mem_singleton.mp hr]
    exact ⟨m0, by show m ≤ m + n; omega, by show m + n ≤ 1000000; omega, fits_coin c10 c11⟩
  have K2 : Kp [t, b] H H2 := by walk_at "kp"
  clear k2 htp2 htp hD k1
  refine for_range (lo := 0) (n := d.toNat) (fun i σ H' => ∃ ys rs v4 v5 v6, σ = [some (.ref t), some (.int m), some (.int n), some (.ref D), v4, v5, v6] ∧ Tape H' t b s ∧ Kp [t, b] H H' ∧ H' D = some (.lst ys) ∧ Rus H' ys rs ∧ rs.length = 1 + i ∧ ∀ r ∈ rs, RuleD.good r) ⟨_, _, _, _, _, rfl, T2, K2, hD2, r0, rfl, g0⟩ ?_ ?_
  · clear g0 r0 hD2 K2 T2
    rintro i σ H' hi ⟨ys, rs, v4, v5, v6, rfl, T', K', hD', hr, hl, hg⟩
    have hyl := ru_len hr
    walk_at "ss"
    rename_i f Hf f0 f1 Tf kf i1 Ha Ta ka a0 a1 i2 Hb Tb kb b0 b1 i3 Hc Tc kc c0 c1x pl hpl d4 Hd y0 y1 Td' kd wv hwv e He e0 e1 Te ke p hp
    obtain ⟨dv, hwd, hfit⟩ : ∃ dv, (∀ G, Td G wv dv) ∧ fitsD .price dv = true := by
      simp only [List.mem_cons, List.not_mem_nil, or_false] at hwv
      rcases hwv with rfl | rfl | rfl | rfl
      · exact ⟨_, fun _ => .non, rfl⟩
      · exact ⟨_, fun _ => .int _, fits_coin a0 a1⟩
      · exact ⟨_, fun _ => .int _, fits_coin b0 b1⟩
      · exact ⟨_, fun _ => .int _, fits_coin c0 c1x⟩
    have hDe : He D = some (.lst ys) := by walk_at "at"
    have hpD : p ≠ D := (ne_of_none hDe hp).symm
    exact ⟨ys ++ [.ref p], rs ++ [⟨.price, m + f, m + f + e, dv⟩], _, _, _, rfl, by walk_at "tp", by walk_at "kp", upd_same, ru_app (by walk_at "ru") (.cons (ru_one (w := .price) (f := m + f) (l := m + f + e) (at_ne hpD upd_same) (hwd _)) .nil), by rw [List.length_append, hl]; exact (by simp; omega), gd_snoc hg ⟨by show 0 ≤ m + f; omega, by show m + f ≤ m + f + e; omega, by show m + f + e ≤ 1000000; omega, hfit⟩⟩
  · rintro σ H' ⟨ys, rs, v4, v5, v6, rfl, T', K', hD', hr, hl, hg⟩
    walk_at "ss"
    exact q D ys rs H' T' K' fD hD' hr (by omega) hg
def t_Lother_rules (K : PySem.W.Frag) : TS :=
  (tSeq (tAsg (tLst tNil) (gName 3))
  (tSeq (tFor (iRng1 (tCons (tCall (sp_Ldraw K) [] E0 (tCons (tVar 0) (tCons (tC (.int 6)) tNil))) tNil)) (gName 4)
  (tSeq (tAsg (tOp (rIxL K) (tLst (tCons (tC (.str "come")) (tCons (tC (.str "go")) (tCons (tC (.str "least")) (tCons (tC (.str "most")) (tCons (tC (.str "deal")) (tCons (tC (.str "fee")) tNil))))))) (tCall (sp_Ldraw K) [] E0 (tCons (tVar 0) (tCons (tC (.int 6)) tNil)))) (gName 5))
  (tSeq (tAsg (tOp rAdd (tVar 1) (tCall (sp_Ldraw K) [] E0 (tCons (tVar 0) (tCons (tVar 2) tNil)))) (gName 6))
  (tDrop (tBM K "list" rAppend (tVar 3) (tCons (tTup (tCons (tVar 5) (tCons (tVar 6) (tCons (tOp rAdd (tVar 6) (tCall (sp_Ldraw K) [] E0 (tCons (tVar 0) (tCons (tC (.int 6)) tNil)))) (tCons (tCall (sp_Lworth K) [] E0 (tCons (tVar 0) (tCons (tVar 5) tNil))) tNil))))) tNil))))))
  (tRet (tVar 3))))
theorem pure_Lother_rules {K : PySem.W.Frag} {x y z : V} {H : Hp} {Q : VK} {E : XK} (h : sp_Lother_rules K [x, y, z] H Q E) : t_Lother_rules K { nx := fun _ H' => Q .non H', rt := Q } [some x, some y, some z, none, none, none, none] H := by
  obtain ⟨x, y, z, e, t, b, s, m, n, rfl, rfl, rfl, T, ⟨m0, n0, mn⟩, q⟩ := h
  cases e
  unfold t_Lother_rules
  walk_at "ss"
  rename_i D hD d H2 d0 d1 T2 k2
  have nD : D ∉ [t, b] := ni_tape hD T
  have hD2 : H2 D = some (.lst []) := by walk_at "at"
  have K2 : Kp [t, b] H H2 := by walk_at "kp"
  clear k2
  refine for_range (lo := 0) (n := d.toNat) (fun i σ H' => ∃ ys rs v4 v5 v6, σ = [some (.ref t), some (.int m), some (.int n), some (.ref D), v4, v5, v6] ∧ Tape H' t b s ∧ Kp [t, b] H H' ∧ H' D = some (.lst ys) ∧ Rus H' ys rs ∧ rs.length = i ∧ ∀ r ∈ rs, RuleD.good r) ⟨_, _, _, _, _, rfl, T2, K2, hD2, ru_nil, rfl, gd_nil⟩ ?_ ?_
  · clear hD2 K2 T2
    rintro i σ H' hi ⟨ys, rs, v4, v5, v6, rfl, T', K', hD', hr, hl, hg⟩
    have hyl := ru_len hr
    walk_at "ss"
    rename_i wl hwl d4 Hd y0 y1 Td' kd wv hwv f Hf f0 f1 Tf kf e He e0 e1 Te ke
    obtain ⟨w, rfl⟩ := word_of6 hwv
    walk_at "ss"
    rename_i v dv Hv Tv kv hv hfit p hp
    have hDe : Hv D = some (.lst ys) := by walk_at "at"
    have hpD : p ≠ D := (ne_of_none hDe hp).symm
    exact ⟨ys ++ [.ref p], rs ++ [⟨w, m + f, m + f + e, dv⟩], _, _, _, rfl, by walk_at "tp", by walk_at "kp", upd_same, ru_app (by walk_at "ru") (.cons (ru_one (at_ne hpD upd_same) (by walk_at "td")) .nil), by rw [List.length_append, hl]; rfl, gd_snoc hg ⟨by show 0 ≤ m + f; omega, by show m + f ≤ m + f + e; omega, by show m + f + e ≤ 1000000; omega, hfit⟩⟩
  · rintro σ H' ⟨ys, rs, v4, v5, v6, rfl, T', K', hD', hr, hl, hg⟩
    walk_at "ss"
    exact q D ys rs H' T' K' hD hD' hr (by omega) hg
def t_Lrules (K : PySem.W.Frag) : TS :=
  (tSeq (tAsg (tCall (sp_Lprice_rules K) [] E0 (tCons (tVar 0) (tCons (tVar 1) (tCons (tVar 2) tNil)))) (gName 3))
  (tSeq (tAsg (tCall (sp_Lother_rules K) [] E0 (tCons (tVar 0) (tCons (tVar 1) (tCons (tVar 2) tNil)))) (gName 4))
  (tRet (tOp (rIxL K) (tLst (tCons (tOp rCat (tVar 3) (tVar 4)) (tCons (tOp rCat (tVar 4) (tVar 3)) tNil))) (tCall (sp_Ldraw K) [] E0 (tCons (tVar 0) (tCons (tC (.int 2)) tNil)))))))
theorem pure_Lrules {K : PySem.W.Frag} {x y z : V} {H : Hp} {Q : VK} {E : XK} (h : sp_Lrules K [x, y, z] H Q E) : t_Lrules K { nx := fun _ H' => Q .non H', rt := Q } [some x, some y, some z, none, none] H := by
  obtain ⟨x, y, z, e, t, b, s, m, n, rfl, rfl, rfl, T, ⟨m0, n0, mn⟩, q⟩ := h
  cases e
  unfold t_Lrules
  walk_at "ss"
  rename_i p1 ys1 rs1 H1 T1 k1 f1 a1 r1 l1 g1 p2 ys2 rs2 H2 T2 k2 f2 a2 r2 l2 g2
  have e1 := ru_len r1
  have e2 := ru_len r2
  walk_at "ss"
  rename_i lA hA lB hB pl hpl d Hd d0 d1 Td' kd v hv
  have fA : Fr H lA := fr_kp (fr_kp hA k2 (ni_tape hA T2)) k1 (ni_tape hA T2)
  have fB' : Fr H2 lB := fr_new hB
  have fB : Fr H lB := fr_kp (fr_kp fB' k2 (ni_tape fB' T2)) k1 (ni_tape fB' T2)
  have nA := ni_tape hA T2
  have nB := ni_tape fB' T2
  simp only [List.mem_cons, List.not_mem_nil, or_false] at hv
  rcases hv with rfl | rfl
  · exact q lA _ (rs1 ++ rs2) Hd (by walk_at "tp") (by walk_at "kp") fA (by walk_at "at") (by walk_at "ru") (by rw [List.length_append]; omega) (gd_app g1 g2)
  · exact q lB _ (rs2 ++ rs1) Hd (by walk_at "tp") (by walk_at "kp") fB (by walk_at "at") (by walk_at "ru") (by rw [List.length_append]; omega) (gd_app g2 g1)
def t_Lstay (K : PySem.W.Frag) : TS :=
  (tSeq (tAsg (tOp rAdd (tC (.int 1)) (tCall (sp_Ldraw K) [] E0 (tCons (tVar 0) (tCons (tVar 2) tNil)))) (gName 3))
  (tSeq (tAsg (tOp rAdd (tVar 1) (tCall (sp_Ldraw K) [] E0 (tCons (tVar 0) (tCons (tOp rAdd (tOp rSub (tVar 2) (tVar 3)) (tC (.int 1))) tNil)))) (gName 4))
  (tRet (tTup (tCons (tVar 4) (tCons (tOp rAdd (tVar 4) (tVar 3)) tNil))))))
theorem pure_Lstay {K : PySem.W.Frag} {x y z : V} {H : Hp} {Q : VK} {E : XK} (h : sp_Lstay K [x, y, z] H Q E) : t_Lstay K { nx := fun _ H' => Q .non H', rt := Q } [some x, some y, some z, none, none] H := by
  obtain ⟨x, y, z, e, t, b, s, m, n, rfl, rfl, rfl, T, ⟨m0, n0, mn⟩, q⟩ := h
  cases e
  unfold t_Lstay
  walk_at "ss"
  rename_i d1 H1 x0 x1 T1 k1 d2 H2 y0 y1 T2 k2 p hp
  exact q p _ _ _ (by walk_at "tp") (by walk_at "kp") (fr_kp (fr_kp hp k2 (ni_tape hp T2)) k1 (ni_tape hp T2)) upd_same (by omega) (by omega) (by omega) (by omega)
/-! YBs: drawn rows of books. -/
open PySem PySem.Spec PyProof.Rows L2
/-- a book at v that has none of the lists D -/
def BkO (K : PySem.W.Frag) (D : List Addr) (H : Hp) (v : V) (rs : List RuleD) : Prop := ∃ F, BookAt K H F v rs ∧ ∀ p ∈ F, p ∉ D
theorem BkO.bk {K : PySem.W.Frag} {D : List Addr} {H : Hp} {v : V} {rs : List RuleD} (h : BkO K D H v rs) : BkAt K H v rs := let ⟨F, b, _⟩ := h; ⟨F, b⟩
theorem BkO.same {K : PySem.W.Frag} {D : List Addr} {H H' : Hp} {v : V} {rs : List RuleD} (s : Same H H') (h : BkO K D H v rs) : BkO K D H' v rs := let ⟨F, b, n⟩ := h; ⟨F, bk_same s b, n⟩
theorem BkO.kp {K : PySem.W.Frag} {t b s : Addr} {D : List Addr} {H H' : Hp} {v : V} {rs : List RuleD} (k : Kp [t, b] H H') (T : Tape H t b s) (hD : ∀ p ∈ [t, b], p ∈ D) (h : BkO K D H v rs) : BkO K D H' v rs := let ⟨F, bk, n⟩ := h; ⟨F, bk_kp k T (fun p hp z => n p hp (hD p z)) bk, n⟩
theorem BkO.put {K : PySem.W.Frag} {D : List Addr} {H : Hp} {p : Addr} {zs : List V} {o : HO} {v : V} {rs : List RuleD} (hp : H p = some (.lst zs)) (hD : p ∈ D) (h : BkO K D H v rs) : BkO K D (upd H p o) v rs := let ⟨F, bk, n⟩ := h; ⟨F, bk_put hp (fun z => n p z hD) bk, n⟩
theorem BkO.less {K : PySem.W.Frag} {D D' : List Addr} {H : Hp} {v : V} {rs : List RuleD} (hD : ∀ p ∈ D', p ∈ D) (h : BkO K D H v rs) : BkO K D' H v rs := let ⟨F, bk, n⟩ := h; ⟨F, bk, fun p hp z => n p hp (hD p z)⟩
/-- a row of books at q, apart from the tape -/
structure Bks (K : PySem.W.Frag) (t b : Addr) (H : Hp) (q : Addr) (vs : List V) (bs : List (List RuleD)) : Prop where
  seq : H q = some (.lst vs)
  ni : q ∉ [t, b]
  bks : Paired (BkO K [t, b] H) vs bs
  good : GoodB bs
  few : bs.length ≤ 10
  small : ∀ rs ∈ bs, rs.length ≤ 10
theorem Bks.same {K : PySem.W.Frag} {t b : Addr} {H H' : Hp} {q : Addr} {vs : List V} {bs : List (List RuleD)} (s : Same H H') (h : Bks K t b H q vs bs) : Bks K t b H' q vs bs :=
  ⟨s _ _ h.seq, h.ni, Paired.mapP h.bks fun _ _ x => x.same s, h.good, h.few, h.small⟩
theorem Bks.kp {K : PySem.W.Frag} {t b s : Addr} {H H' : Hp} {q : Addr} {vs : List V} {bs : List (List RuleD)} (k : Kp [t, b] H H') (T : Tape H t b s) (h : Bks K t b H q vs bs) : Bks K t b H' q vs bs :=
  ⟨k _ _ h.seq h.ni, h.ni, Paired.mapP h.bks fun _ _ x => x.kp k T fun _ z => z, h.good, h.few, h.small⟩
theorem Bks.to {K : PySem.W.Frag} {t b : Addr} {H : Hp} {q p : Addr} {vs : List V} {bs : List (List RuleD)} (h : Bks K t b H q vs bs) (hp : H p = some (.lst vs)) (n : p ∉ [t, b]) : Bks K t b H p vs bs := ⟨hp, n, h.bks, h.good, h.few, h.small⟩
theorem Bks.bst {K : PySem.W.Frag} {t b : Addr} {H : Hp} {q a : Addr} {vs : List V} {bs : List (List RuleD)} {c g : Int} (h : Bks K t b H q vs bs) (s : SqT K H a [.int c, .int g]) (st : StayB c g) : Bst K H q a vs bs c g :=
  ⟨SqL.of h.seq, Paired.mapP h.bks fun _ _ x => x.bk, h.good, h.few, s, st⟩
def sp_Lbooks (K : PySem.W.Frag) : Sp := Sp3 fun x y z H Q E => CFR K ∧ CFB K ∧ ∃ (t b s : Addr) (m n : Int), x = .ref t ∧ y = .int m ∧ z = .int n ∧ Tape H t b s ∧ BD m n ∧ ∀ (q : Addr) (vs : List V) (bs : List (List RuleD)) (H' : Hp), Tape H' t b s → Kp [t, b] H H' → Fr H q → Bks K t b H' q vs bs → 1 ≤ bs.length → bs.length ≤ 4 → Q (.ref q) H'
theorem g_Lbooks {K : PySem.W.Frag} {t b s : Addr} {m n : Int} {H : Hp} {Q : VK} {E : XK} (cf : CFR K) (cb : CFB K) (T : Tape H t b s) (c : 0 ≤ m ∧ 1 ≤ n ∧ m + n ≤ 999995) (q : ∀ (q : Addr) (vs : List V) (bs : List (List RuleD)) (H' : Hp), Tape H' t b s → Kp [t, b] H H' → Fr H q → Bks K t b H' q vs bs → 1 ≤ bs.length → bs.length ≤ 4 → Q (.ref q) H') : sp_Lbooks K ([.ref t, .int m, .int n] ++ []) H Q E :=
  ⟨_, _, _, rfl, cf, cb, t, b, s, m, n, rfl, rfl, rfl, T, c, q⟩
def sp_Lwhole (K : PySem.W.Frag) : Sp := Sp1 fun x H Q E => ∃ d, At H [] x d ∧ Q (.bl (isW d)) H
def t_Lbooks (K : PySem.W.Frag) : TS :=
  (tSeq (tAsg (tLst tNil) (gName 3))
  (tSeq (tFor (iRng1 (tCons (tOp rAdd (tC (.int 1)) (tCall (sp_Ldraw K) [] E0 (tCons (tVar 0) (tCons (tC (.int 4)) tNil)))) tNil)) (gName 4)
  (tDrop (tBM K "list" rAppend (tVar 3) (tCons (tMake (He.ga K "Book") (sp_Book_init K) [] E0 (tCons (tSl (rSlL K) (tCall (sp_Lrules K) [] E0 (tCons (tVar 0) (tCons (tVar 1) (tCons (tVar 2) tNil)))) tNoPart (tPart (tOp (rIxL K) (tLst (tCons (tC (.int 3)) (tCons (tC (.int 24)) tNil))) (tCall (sp_Ldraw K) [] E0 (tCons (tVar 0) (tCons (tC (.int 2)) tNil)))))) tNil)) tNil))))
  (tRet (tVar 3))))
theorem pure_Lbooks {K : PySem.W.Frag} {x y z : V} {H : Hp} {Q : VK} {E : XK} (h : sp_Lbooks K [x, y, z] H Q E) : t_Lbooks K { nx := fun _ H' => Q .non H', rt := Q } [some x, some y, some z, none, none] H := by
  obtain ⟨x, y, z, e, cf, cb, t, b, s, m, n, rfl, rfl, rfl, T, ⟨m0, n0, mn⟩, q⟩ := h
  cases e
  unfold t_Lbooks
  walk_at "ss"
  rename_i D hD d H2 d0 d1 T2 k2
  have nD : D ∉ [t, b] := ni_tape hD T
  have hD2 : H2 D = some (.lst []) := by walk_at "at"
  have K2 : Kp [t, b] H H2 := by walk_at "kp"
  clear k2
  refine for_range (lo := 0) (n := (1 + d).toNat) (fun i σ H' => ∃ vs bs v4, σ = [some (.ref t), some (.int m), some (.int n), some (.ref D), v4] ∧ Tape H' t b s ∧ Kp [t, b] H H' ∧ H' D = some (.lst vs) ∧ Paired (BkO K [t, b, D] H') vs bs ∧ bs.length = i ∧ GoodB bs ∧ ∀ rs ∈ bs, rs.length ≤ 10) ⟨_, _, _, rfl, T2, K2, hD2, .nil, rfl, by simp [GoodB], by simp⟩ ?_ ?_
  · clear hD2 K2 T2
    rintro i σ H' hi ⟨vs, bs, v4, rfl, T', K', hD', hB, hl, hg, hs⟩
    have hvl := Paired.length hB
    walk_at "ss"
    rename_i p1 ys rs Ha Ta ka fa aa ra la ga pe hpe v Hb v0 v1 Tb kb w hw pc hpc bv F Hc sc bk ff fn
    have fa' := ni_tape fa T'
    have fpe := ni_tape hpe Ta
    have hDb : (upd Hb pc (.lst (ys.take w.toNat))) D = some (.lst vs) := by walk_at "at"
    have hDc := sc _ _ hDb
    have nDF : D ∉ F := nf_old ff hDb
    have hB2 : Paired (BkO K [t, b, D] Hc) vs bs := Paired.mapP hB fun _ _ x => (((((x.kp ka T' (by simp)).same (same_new hpe)).kp kb (tape_new hpe Ta) (by simp)).same (same_new hpc)).same sc)
    refine ⟨vs ++ [bv], bs ++ [rs.take w.toNat], _, rfl, by walk_at "tp", by walk_at "kp", upd_same, Paired.snoc (Paired.mapP hB2 fun _ _ x => x.put hDc (by simp)) ⟨F, bk_put hDc nDF bk, fun p hp => ?_⟩, by rw [List.length_append, hl]; rfl, ?_, ?_⟩
    · have := fn p hp
      simp only [List.mem_cons, List.not_mem_nil, or_false] at this ⊢
      rintro (z | z | z)
      · exact this (.inl z)
      · exact this (.inr z)
      · exact nDF (z ▸ hp)
    · intro rs' h
      rcases List.mem_append.mp h with h | h
      · exact hg rs' h
      · obtain rfl := List.mem_singleton.mp h
        exact gd_take ga
    · intro rs' h
      rcases List.mem_append.mp h with h | h
      · exact hs rs' h
      · obtain rfl := List.mem_singleton.mp h
        rw [List.length_take]
        omega
  · rintro σ H' ⟨vs, bs, v4, rfl, T', K', hD', hB, hl, hg, hs⟩
    walk_at "ss"
    exact q D vs bs H' T' K' hD ⟨hD', nD, Paired.mapP hB fun _ _ x => x.less (by simp), hg, by omega, hs⟩ (by omega) (by omega)
/-! YB: what is a day, a stretch, coins, nights. -/
open PySem PySem.Spec PyProof.Rows L2
theorem ats2 {H : Hp} {L : List Addr} {xs : List V} {ds : List PyData} (r : Ats H L xs ds) (h : xs.length = 2) : ∃ x y a b, xs = [x, y] ∧ ds = [a, b] ∧ At H L x a ∧ At H L y b := by
  match xs, ds, r, h with
  | [x, y], [a, b], .cons h1 (.cons h2 .nil), _ => exact ⟨x, y, a, b, rfl, rfl, h1, h2⟩
def t_is_whole (K : PySem.W.Frag) : TS :=
  (tRet (tAndV (tCB (rIsi K) (tCons (tVar 0) (tCons (tC (.ty "int")) tNil))) (tNotV (tCB (rIsi K) (tCons (tVar 0) (tCons (tC (.ty "bool")) tNil))))))
theorem pure_is_whole {K : PySem.W.Frag} {x : V} {H : Hp} {Q : VK} {E : XK} (h : sp_is_whole K [x] H Q E) : t_is_whole K { nx := fun _ H' => Q .non H', rt := Q } [some x] H := by
  obtain ⟨x, e, d, h, q⟩ := h
  cases e
  unfold t_is_whole
  cases h <;> (walk_at "ss"; exact q)
def t_is_day (K : PySem.W.Frag) : TS :=
  (tRet (tAndV (tCall (sp_is_whole K) [] E0 (tCons (tVar 0) tNil)) (tChain rLe rLe (tC (.int 0)) (tVar 0) (tC (.int 1000000)))))
theorem pure_is_day {K : PySem.W.Frag} {x : V} {H : Hp} {Q : VK} {E : XK} (h : sp_is_day K [x] H Q E) : t_is_day K { nx := fun _ H' => Q .non H', rt := Q } [some x] H := by
  obtain ⟨x, e, d, h, q⟩ := h
  cases e
  unfold t_is_day
  walk_at "ss"
  cases h with
  | int i =>
    refine ite_t rfl ?_
    walk_at "ss"
    refine ite_b (fun h1 => ?_) fun h1 => ?_
    · walk_at "ss"
      exact and_t h1 q
    · exact and_f h1 q
  | _ => exact q
def t_is_two_days (K : PySem.W.Frag) : TS :=
  (tRet (tAndV (tCB (rIsi K) (tCons (tVar 0) (tCons (tC (.ty "tuple")) tNil))) (tAndV (tOp rEq (tCB (rLen K) (tCons (tVar 0) tNil)) (tC (.int 2))) (tAndV (tCall (sp_is_day K) [] E0 (tCons (tOp (rIxT K) (tVar 0) (tC (.int 0))) tNil)) (tCall (sp_is_day K) [] E0 (tCons (tOp (rIxT K) (tVar 0) (tC (.int 1))) tNil))))))
theorem is2_no {ds : List PyData} (h : ds.length ≠ 2) : is2 (.tuple ds) = false := by
  match ds, h with
  | [], _ => rfl
  | [_], _ => rfl
  | [_, _], h => exact absurd rfl h
  | _ :: _ :: _ :: _, _ => rfl
theorem pure_is_two_days {K : PySem.W.Frag} {x : V} {H : Hp} {Q : VK} {E : XK} (h : sp_is_two_days K [x] H Q E) : t_is_two_days K { nx := fun _ H' => Q .non H', rt := Q } [some x] H := by
  obtain ⟨x, e, d, h, q⟩ := h
  cases e
  unfold t_is_two_days
  cases h with
  | tup n h r =>
    walk_at "ss"
    refine ite_b (fun h1 => ?_) fun h1 => ?_
    · rw [int_eq, decide_eq_true_eq] at h1
      obtain ⟨x, y, a, b, rfl, rfl, hx, hy⟩ := ats2 r (by omega)
      walk_at "ss"
      refine ite_b (fun h2 => ?_) fun h2 => ?_
      · walk_at "ss"
        exact and_t h2 q
      · exact and_f h2 q
    · rw [int_eq, decide_eq_false_iff_not] at h1
      rw [is2_no (fun z => h1 (by rw [Ats.len r, z]; rfl))] at q
      exact q
  | _ => walk_at "ss"; exact q
def t_is_stretch (K : PySem.W.Frag) : TS :=
  (tRet (tAndV (tCall (sp_is_two_days K) [] E0 (tCons (tVar 0) tNil)) (tOp rLe (tOp (rIxT K) (tVar 0) (tC (.int 0))) (tOp (rIxT K) (tVar 0) (tC (.int 1))))))
theorem isStr_no {d : PyData} (h : is2 d = false) : isStr d = false := by
  unfold isStr
  split
  · rename_i a b
    have h' : (isDay (.int a) && isDay (.int b)) = false := h
    cases e : isDay (.int a) with
    | false => rfl
    | true =>
      rw [e, Bool.true_and] at h'
      rw [h', Bool.false_and, Bool.and_false]
  · rfl
theorem isDay_int {d : PyData} (h : isDay d = true) : ∃ i, d = .int i := by
  cases d with
  | int i => exact ⟨i, rfl⟩
  | _ => cases h
theorem is2_ex {d : PyData} (h : is2 d = true) : ∃ a b, d = .tuple [.int a, .int b] ∧ isDay (.int a) = true ∧ isDay (.int b) = true := by
  unfold is2 at h
  split at h
  · obtain ⟨h1, h2⟩ := Bool.and_eq_true_iff.mp h
    obtain ⟨a, rfl⟩ := isDay_int h1
    obtain ⟨b, rfl⟩ := isDay_int h2
    exact ⟨a, b, rfl, h1, h2⟩
  · cases h
theorem pure_is_stretch {K : PySem.W.Frag} {x : V} {H : Hp} {Q : VK} {E : XK} (h : sp_is_stretch K [x] H Q E) : t_is_stretch K { nx := fun _ H' => Q .non H', rt := Q } [some x] H := by
  obtain ⟨x, e, d, h, q⟩ := h
  cases e
  unfold t_is_stretch
  walk_at "ss"
  refine ite_b (fun h1 => ?_) fun h1 => ?_
  · obtain ⟨a, b, rfl, h2, h3⟩ := is2_ex h1
    cases h with
    | tup n h r =>
      obtain ⟨x, y, _, _, rfl, e, hx, hy⟩ := ats2 r (Ats.len r)
      cases e
      cases hx
      cases hy
      walk_at "ss"
      exact and_t h3 (and_t h2 q)
  · rw [isStr_no h1] at q
    exact q
def t_is_coins (K : PySem.W.Frag) : TS :=
  (tRet (tAndV (tCall (sp_is_whole K) [] E0 (tCons (tVar 0) tNil)) (tChain rLe rLe (tC (.int 0)) (tVar 0) (tC (.int 1000000000000)))))
theorem pure_is_coins {K : PySem.W.Frag} {x : V} {H : Hp} {Q : VK} {E : XK} (h : sp_is_coins K [x] H Q E) : t_is_coins K { nx := fun _ H' => Q .non H', rt := Q } [some x] H := by
  obtain ⟨x, e, d, h, q⟩ := h
  cases e
  unfold t_is_coins
  walk_at "ss"
  cases h with
  | int i =>
    refine ite_t rfl ?_
    walk_at "ss"
    refine ite_b (fun h1 => ?_) fun h1 => ?_
    · walk_at "ss"
      exact and_t h1 q
    · exact and_f h1 q
  | _ => exact q
def t_is_nights (K : PySem.W.Frag) : TS :=
  (tRet (tAndV (tCall (sp_is_whole K) [] E0 (tCons (tVar 0) tNil)) (tChain rLe rLe (tC (.int 1)) (tVar 0) (tC (.int 14)))))
theorem pure_is_nights {K : PySem.W.Frag} {x : V} {H : Hp} {Q : VK} {E : XK} (h : sp_is_nights K [x] H Q E) : t_is_nights K { nx := fun _ H' => Q .non H', rt := Q } [some x] H := by
  obtain ⟨x, e, d, h, q⟩ := h
  cases e
  unfold t_is_nights
  walk_at "ss"
  cases h with
  | int i =>
    refine ite_t rfl ?_
    walk_at "ss"
    refine ite_b (fun h1 => ?_) fun h1 => ?_
    · walk_at "ss"
      exact and_t h1 q
    · exact and_f h1 q
  | _ => exact q
/-! YSi: lists of whole numbers and of truths: in, sorted, unlike ones. -/
open PySem PySem.Spec PyProof.Rows L2
theorem eqV_int (a b : Int) : eqV (V.int a) (V.int b) = (a == b) := rfl
theorem inV_ints (i : Int) (ns : List Int) : inV (.int i) (ns.map V.int) = decide (i ∈ ns) := by
  unfold inV
  rw [List.any_map]
  have : ((fun y => eqV y (V.int i)) ∘ V.int) = fun n => n == i := funext fun n => eqV_int n i
  rw [this]
  cases h : decide (i ∈ ns) with
  | true => exact List.any_eq_true.mpr ⟨i, of_decide_eq_true h, by simp⟩
  | false =>
    refine List.any_eq_false.mpr fun x hx => ?_
    have := of_decide_eq_false h
    simp
    exact fun z => this (z ▸ hx)
theorem g_inI {K : PySem.W.Frag} {H : Hp} {Q : VK} {p : Addr} {ns : List Int} {i : Int} (h : SqL K H p (ns.map V.int)) (q : Q (.bl (decide (i ∈ ns))) H) : rIn K false (.int i) (.ref p) H Q := ⟨p, _, rfl, .inl h, rfl, ints_flat ns, by rw [inV_ints]; exact q⟩
theorem g_ninI {K : PySem.W.Frag} {H : Hp} {Q : VK} {p : Addr} {ns : List Int} {i : Int} (h : SqL K H p (ns.map V.int)) (q : Q (.bl (!decide (i ∈ ns))) H) : rIn K true (.int i) (.ref p) H Q := ⟨p, _, rfl, .inl h, rfl, ints_flat ns, by rw [inV_ints]; exact q⟩
def rNotB : R2 := fun x y H Q => ∃ b c, x = .bl b ∧ y = .bl c ∧ Q (.bl (!decide (b = c))) H
theorem op_notB {X : Cx} : OpR X (compareOp .IsNot) rNotB := by
  intro pins s σ H x y v u Q I rx ry h
  obtain ⟨b, c, rfl, rfl, q⟩ := h
  cases rx
  cases ry
  show wpAny _ _ ((isSame (Value.bool b) (Value.bool c)) >>= fun z => pure (Value.bool (!z))) _ _ s
  refine wpAny_bind (wpAny_isSame_plain (by cases b <;> cases c <;> rfl) (wpAny_pure (fin_bl I q ?_)))
  cases b <;> cases c <;> rfl
theorem g_notB {b c : Bool} {H : Hp} {Q : VK} (q : Q (.bl (!decide (b = c))) H) : rNotB (.bl b) (.bl c) H Q := ⟨b, c, rfl, rfl, q⟩
/-- two lists of the very same things are not unlike -/
def rNeS (K : PySem.W.Frag) : R2 := fun x y H Q => ∃ (a b : Addr) (xs : List V), x = .ref a ∧ y = .ref b ∧ SqL K H a xs ∧ SqL K H b xs ∧ (∀ v ∈ xs, ∃ q, v = V.ref q) ∧ Q (.bl false) H
/-! YLk: the looker at cuts. -/
open PySem PySem.Spec PyProof.Rows L2
def isStay : PyData → Bool
  | .tuple [.int a, .int b] => isDay (.int a) && (isDay (.int b) && (decide (1 ≤ b - a) && decide (b - a ≤ 14)))
  | _ => false
theorem isStay_no {d : PyData} (h : is2 d = false) : isStay d = false := by
  unfold isStay
  split
  · rename_i a b
    have h' : (isDay (.int a) && isDay (.int b)) = false := h
    cases e : isDay (.int a) with
    | false => rfl
    | true =>
      rw [e, Bool.true_and] at h'
      rw [h', Bool.false_and, Bool.and_false]
  · rfl
def sp_is_stay (K : PySem.W.Frag) : Sp := Sp1 fun x H Q E => ∃ d, At H [] x d ∧ Q (.bl (isStay d)) H
theorem g_is_stay {K : PySem.W.Frag} {H : Hp} {Q : VK} {E : XK} {x : V} {d : PyData} (h : At H [] x d) (q : Q (.bl (isStay d)) H) : sp_is_stay K ([x] ++ []) H Q E := ⟨x, rfl, d, h, q⟩
def hadAt (bs : List (List RuleD)) (b e k : Int) : Bool := match bs[k.toNat]? with
  | some rs => hadB rs b e
  | none => false
/-- a part of the days c to g -/
def partB (bs : List (List RuleD)) (c g b e k : Int) : Bool := decide (c ≤ b) && (decide (e ≤ g) && (decide (0 ≤ k) && (decide (k < (bs.length : Nat)) && hadAt bs b e k)))
def isPartD (bs : List (List RuleD)) (c g : Int) : PyData → Bool
  | .tuple [.int b, .int e, .int k] => isStay (.tuple [.int b, .int e]) && partB bs c g b e k
  | _ => false
theorem isPart_no3 {bs : List (List RuleD)} {c g : Int} {ds : List PyData} (h : ds.length ≠ 3) : isPartD bs c g (.tuple ds) = false := by
  unfold isPartD
  split
  · rename_i e
    cases e
    exact absurd rfl h
  · rfl
theorem isPart_nost {bs : List (List RuleD)} {c g : Int} {x y z : PyData} (h : isStay (.tuple [x, y]) = false) : isPartD bs c g (.tuple [x, y, z]) = false := by
  unfold isPartD
  split
  · rename_i e
    cases e
    rw [h]
    rfl
  · rfl
theorem isPart_false {bs : List (List RuleD)} {c g b e : Int} {z : PyData} (h : ∀ k, z = .int k → partB bs c g b e k = false) : isPartD bs c g (.tuple [.int b, .int e, z]) = false := by
  unfold isPartD
  split
  · rename_i k e'
    cases e'
    rw [h _ rfl, Bool.and_false]
  · rfl
/-- the books and the stay that a looker gets -/
def sp_is_part (K : PySem.W.Frag) : Sp := Sp3 fun x y z H Q E => CFR K ∧ CFB K ∧ ∃ (p a : Addr) (vs : List V) (bs : List (List RuleD)) (c g : Int) (d : PyData), x = .ref p ∧ y = .ref a ∧ Bst K H p a vs bs c g ∧ At H [] z d ∧ ∀ H', Same H H' → Q (.bl (isPartD bs c g d)) H'
theorem g_is_part {K : PySem.W.Frag} {p a : Addr} {vs : List V} {bs : List (List RuleD)} {c g : Int} {z : V} {d : PyData} {H : Hp} {Q : VK} {E : XK} (cf : CFR K) (cb : CFB K) (B : Bst K H p a vs bs c g) (h : At H [] z d) (q : ∀ H', Same H H' → Q (.bl (isPartD bs c g d)) H') : sp_is_part K ([.ref p, .ref a, z] ++ []) H Q E :=
  ⟨_, _, _, rfl, cf, cb, p, a, vs, bs, c, g, d, rfl, rfl, B, h, q⟩
def cutGo (bs : List (List RuleD)) (c g : Int) : Int → List PyData → Bool
  | day, [] => decide (day = g)
  | day, .tuple [.int b, .int e, .int k] :: r => isPartD bs c g (.tuple [.int b, .int e, .int k]) && (decide (b = day) && cutGo bs c g e r)
  | _, _ :: _ => false
def isCutD (bs : List (List RuleD)) (c g : Int) : PyData → Bool
  | .list ds => cutGo bs c g c ds
  | _ => false
def sp_is_cut (K : PySem.W.Frag) : Sp := Sp3 fun x y z H Q E => CFR K ∧ CFB K ∧ ∃ (p a : Addr) (vs : List V) (bs : List (List RuleD)) (c g : Int) (d : PyData), x = .ref p ∧ y = .ref a ∧ Bst K H p a vs bs c g ∧ At H [] z d ∧ ∀ H', Same H H' → Q (.bl (isCutD bs c g d)) H'
theorem g_is_cut {K : PySem.W.Frag} {p a : Addr} {vs : List V} {bs : List (List RuleD)} {c g : Int} {z : V} {d : PyData} {H : Hp} {Q : VK} {E : XK} (cf : CFR K) (cb : CFB K) (B : Bst K H p a vs bs c g) (h : At H [] z d) (q : ∀ H', Same H H' → Q (.bl (isCutD bs c g d)) H') : sp_is_cut K ([.ref p, .ref a, z] ++ []) H Q E :=
  ⟨_, _, _, rfl, cf, cb, p, a, vs, bs, c, g, d, rfl, rfl, B, h, q⟩
theorem isPart_ex {bs : List (List RuleD)} {c g : Int} {d : PyData} (h : isPartD bs c g d = true) : ∃ b e k, d = .tuple [.int b, .int e, .int k] ∧ isStay (.tuple [.int b, .int e]) = true ∧ partB bs c g b e k = true := by
  unfold isPartD at h
  split at h
  · rename_i b e k
    obtain ⟨h1, h2⟩ := Bool.and_eq_true_iff.mp h
    exact ⟨b, e, k, rfl, h1, h2⟩
  · cases h
theorem isStay_b {b e : Int} (h : isStay (.tuple [.int b, .int e]) = true) : 0 ≤ b ∧ e ≤ 1000000 ∧ b < e ∧ e ≤ b + 14 := by
  have h' : (isDay (.int b) && (isDay (.int e) && (decide (1 ≤ e - b) && decide (e - b ≤ 14)))) = true := h
  simp only [Bool.and_eq_true, decide_eq_true_eq] at h'
  have h1 : (decide (0 ≤ b) && decide (b ≤ 1000000)) = true := h'.1
  have h2 : (decide (0 ≤ e) && decide (e ≤ 1000000)) = true := h'.2.1
  simp only [Bool.and_eq_true, decide_eq_true_eq] at h1 h2
  omega
theorem partB_b {bs : List (List RuleD)} {c g b e k : Int} (h : partB bs c g b e k = true) : c ≤ b ∧ e ≤ g ∧ ∃ (n : Nat) (rs : List RuleD), k = n ∧ bs[n]? = some rs ∧ hadB rs b e = true := by
  unfold partB at h
  simp only [Bool.and_eq_true, decide_eq_true_eq] at h
  obtain ⟨h1, h2, h3, h4, h5⟩ := h
  unfold hadAt at h5
  cases e' : bs[k.toNat]? with
  | none => rw [e'] at h5; cases h5
  | some rs => rw [e'] at h5; exact ⟨h1, h2, k.toNat, rs, by omega, e', h5⟩
theorem ats_get {H : Hp} {L : List Addr} : ∀ {vs : List V} {ds : List PyData} {i : Nat} {v : V}, Ats H L vs ds → vs[i]? = some v → ∃ d, ds[i]? = some d ∧ At H L v d
  | _, _, _, _, .nil, e => by simp at e
  | _, _, 0, _, .cons r _, e => by simp at e; subst e; exact ⟨_, rfl, r⟩
  | _, _, i + 1, v, .cons _ t, e => by
    obtain ⟨d, h1, h2⟩ := ats_get (i := i) t (by simpa using e)
    exact ⟨d, by simpa using h1, h2⟩
def t_is_stay (K : PySem.W.Frag) : TS :=
  (tRet (tAndV (tCall (sp_is_two_days K) [] E0 (tCons (tVar 0) tNil)) (tChain rLe rLe (tC (.int 1)) (tOp rSub (tOp (rIxT K) (tVar 0) (tC (.int 1))) (tOp (rIxT K) (tVar 0) (tC (.int 0)))) (tC (.int 14)))))
theorem pure_is_stay {K : PySem.W.Frag} {x : V} {H : Hp} {Q : VK} {E : XK} (h : sp_is_stay K [x] H Q E) : t_is_stay K { nx := fun _ H' => Q .non H', rt := Q } [some x] H := by
  obtain ⟨x, e, d, h, q⟩ := h
  cases e
  unfold t_is_stay
  walk_at "ss"
  refine ite_b (fun h1 => ?_) fun h1 => ?_
  · obtain ⟨a, b, rfl, h2, h3⟩ := is2_ex h1
    cases h with
    | tup n h r =>
      obtain ⟨x, y, _, _, rfl, e, hx, hy⟩ := ats2 r (Ats.len r)
      cases e
      cases hx
      cases hy
      have q' := and_t h3 (and_t h2 q)
      walk_at "ss"
      refine ite_b (fun h4 => ?_) fun h4 => ?_
      · walk_at "ss"
        exact and_t h4 q'
      · exact and_f h4 q'
  · rw [isStay_no h1] at q
    exact q
def t_is_part (K : PySem.W.Frag) : TS :=
  (tSeq (tIfS (tOr (tNot (tB (tCB (rIsi K) (tCons (tVar 2) (tCons (tC (.ty "tuple")) tNil))))) (tOr (tTest (tOp rNe (tCB (rLen K) (tCons (tVar 2) tNil)) (tC (.int 3)))) (tNot (tB (tCall (sp_is_stay K) [] E0 (tCons (tTup (tCons (tOp (rIxT K) (tVar 2) (tC (.int 0))) (tCons (tOp (rIxT K) (tVar 2) (tC (.int 1))) tNil))) tNil))))))
  (tRet (tC (.bl false)))
  tNext)
  (tSeq (tAsg (tVar 2) (gTup K 3 (gCons (gName 3) (gCons (gName 4) (gCons (gName 5) gNil)))))
  (tSeq (tIfS (tOr (tTest (tOp rLt (tVar 3) (tOp (rIxT K) (tVar 1) (tC (.int 0))))) (tOr (tTest (tOp rGt (tVar 4) (tOp (rIxT K) (tVar 1) (tC (.int 1))))) (tOr (tNot (tB (tCall (sp_is_whole K) [] E0 (tCons (tVar 5) tNil)))) (tNot (tTest (tChain rLe rLt (tC (.int 0)) (tVar 5) (tCB (rLen K) (tCons (tVar 0) tNil))))))))
  (tRet (tC (.bl false)))
  tNext)
  (tRet (tCall (sp_can_be_had K) [] E0 (tCons (tOp (rIxL K) (tVar 0) (tVar 5)) (tCons (tTup (tCons (tVar 3) (tCons (tVar 4) tNil))) tNil)))))))
theorem pure_is_part {K : PySem.W.Frag} {x y z : V} {H : Hp} {Q : VK} {E : XK} (h : sp_is_part K [x, y, z] H Q E) : t_is_part K { nx := fun _ H' => Q .non H', rt := Q } [some x, some y, some z, none, none, none] H := by
  obtain ⟨x, y, z, e, cf, cb, p, a, vs, bs, c, g, d, rfl, rfl, B, hz, q⟩ := h
  cases e
  unfold t_is_part
  have S := B.st
  have hsq := B.seq
  have hvl := Paired.length B.bks
  have q0 := q H (Same.refl _)
  cases hz with
  | tup n h r =>
    rename_i tq xs ds
    have hl := Ats.len r
    walk_at "ss"
    rw [int_eq]
    refine ite_nd (fun h3 => ?_) fun h3 => ?_
    · match xs, ds, r, (show xs.length = 3 by omega) with
      | [x1, x2, x3], [d1, d2, d3], .cons a1 (.cons a2 (.cons a3 .nil)), _ =>
        walk_at "ss"
        rename_i t1 ht1
        refine g_is_stay (d := .tuple [d1, d2]) (at_tup0 upd_same (.cons (at_new' ht1 a1) (.cons (at_new' ht1 a2) .nil))) ?_
        walk_at "ss"
        cases hst : isStay (.tuple [d1, d2]) with
        | false =>
          walk_at "ss"
          have := q _ (same_new (o := .tup [x1, x2]) ht1)
          rw [isPart_nost hst] at this
          exact this
        | true =>
          obtain ⟨b, e, rfl, rfl⟩ : ∃ b e : Int, d1 = .int b ∧ d2 = .int e := by
            cases d1 <;> cases d2 <;> first | exact ⟨_, _, rfl, rfl⟩ | cases hst
          cases a1
          cases a2
          obtain ⟨b0, b1, b2, b3⟩ := isStay_b hst
          walk_at "ss"
          have h' : (upd H t1 (.tup [.int b, .int e])) tq = some (.tup [.int b, .int e, x3]) := at_new ht1 h
          have S1 : SqT K (upd H t1 (.tup [.int b, .int e])) a [.int c, .int g] := Same.seqT (same_new ht1) S
          have s1 : Same H (upd H t1 (.tup [.int b, .int e])) := same_new ht1
          have a3' : At (upd H t1 (.tup [.int b, .int e])) [] x3 d3 := at_new' ht1 a3
          have B1 := B.same s1
          have hsq1 := B1.seq
          generalize upd H t1 (.tup [.int b, .int e]) = G at s1 h' S1 a3' B1 hsq1 ⊢
          have fl : ∀ {H' : Hp}, Same H H' → (∀ k, d3 = .int k → partB bs c g b e k = false) → Q (.bl false) H' := fun s hk => by
            have := q _ s
            rw [isPart_false hk] at this
            exact this
          walk_at "ss"
          refine ite_d (fun z => ?_) fun z => ?_
          · walk_at "ss"
            refine fl s1 fun k _ => ?_
            unfold partB
            rw [decide_eq_false (by omega)]
            rfl
          walk_at "ss"
          refine ite_d (fun z2 => ?_) fun z2 => ?_
          · walk_at "ss"
            refine fl s1 fun k _ => ?_
            unfold partB
            rw [decide_eq_true (show c ≤ b by omega), decide_eq_false (show ¬ e ≤ g by omega)]
            rfl
          walk_at "ss"
          cases a3' with
          | int k =>
            refine ite_f rfl ?_
            walk_at "ss"
            have q2 := q G s1
            have eP : isPartD bs c g (.tuple [.int b, .int e, .int k]) = partB bs c g b e k := by
              show (isStay (.tuple [.int b, .int e]) && partB bs c g b e k) = _
              rw [hst]
              rfl
            refine ite_d (fun z3 => ?_) fun z3 => ?_
            · walk_at "ss"
              refine ite_nd (fun z4 => ?_) fun z4 => ?_
              · walk_at "ss"
                have hk : k.toNat < bs.length := by omega
                obtain ⟨bv, hbv, F, hbk⟩ := Paired.getR B1.bks (List.getElem?_eq_getElem hk)
                have gr : ∀ r ∈ bs[k.toNat], RuleD.good r := B.good _ (List.getElem_mem hk)
                refine g_ixL hsq1 (by rw [show k = ((k.toNat : Nat) : Int) by omega]; exact atI_nat hbv) ?_
                walk_at "ss"
                rename_i t5 ht5
                refine g_can (F := F) cf cb (bk_new ht5 hbk) gr (SqT.of upd_same) ⟨by omega, by omega, by omega, by omega⟩ fun H5 s5 => ?_
                have := q _ ((sm_new (o := .tup [.int b, .int e]) ht5 s1).trans s5)
                rw [eP] at this
                unfold partB hadAt at this
                rw [decide_eq_true (show c ≤ b by omega), decide_eq_true (show e ≤ g by omega), decide_eq_true z3, decide_eq_true (show k < (bs.length : Nat) by omega), List.getElem?_eq_getElem hk] at this
                exact this
              · walk_at "ss"
                refine fl s1 fun k' e' => ?_
                cases e'
                unfold partB
                rw [decide_eq_true (show c ≤ b by omega), decide_eq_true (show e ≤ g by omega), decide_eq_true z3, decide_eq_false (show ¬ k < (bs.length : Nat) by omega)]
                rfl
            · walk_at "ss"
              refine fl s1 fun k' e' => ?_
              cases e'
              unfold partB
              rw [decide_eq_true (show c ≤ b by omega), decide_eq_true (show e ≤ g by omega), decide_eq_false z3]
              rfl
          | _ =>
            refine ite_t rfl ?_
            walk_at "ss"
            exact fl s1 fun k e => by cases e
    · walk_at "ss"
      rw [isPart_no3 (by omega)] at q0
      exact q0
  | _ =>
    walk_at "ss"
    exact q0
def t_is_cut (K : PySem.W.Frag) : TS :=
  (tSeq (tIfS (tNot (tB (tCB (rIsi K) (tCons (tVar 2) (tCons (tC (.ty "list")) tNil)))))
  (tRet (tC (.bl false)))
  tNext)
  (tSeq (tAsg (tOp (rIxT K) (tVar 1) (tC (.int 0))) (gName 3))
  (tSeq (tFor (iList K (tVar 2)) (gName 4)
  (tSeq (tIfS (tOr (tNot (tB (tCall (sp_is_part K) [] E0 (tCons (tVar 0) (tCons (tVar 1) (tCons (tVar 4) tNil)))))) (tTest (tOp rNe (tOp (rIxT K) (tVar 4) (tC (.int 0))) (tVar 3))))
  (tRet (tC (.bl false)))
  tNext)
  (tAsg (tOp (rIxT K) (tVar 4) (tC (.int 1))) (gName 3))))
  (tRet (tOp rEq (tVar 3) (tOp (rIxT K) (tVar 1) (tC (.int 1))))))))
theorem pure_is_cut {K : PySem.W.Frag} {x y z : V} {H : Hp} {Q : VK} {E : XK} (h : sp_is_cut K [x, y, z] H Q E) : t_is_cut K { nx := fun _ H' => Q .non H', rt := Q } [some x, some y, some z, none, none] H := by
  obtain ⟨x, y, z, e, cf, cb, p, a, vs, bs, c, g, d, rfl, rfl, B, hz, q⟩ := h
  cases e
  unfold t_is_cut
  have S := B.st
  have q0 := q H (Same.refl _)
  cases hz with
  | lst n h r =>
    rename_i lq xs ds
    have hl := Ats.len r
    walk_at "ss"
    have q1 : ∀ H', Same H H' → Q (.bl (cutGo bs c g c ds)) H' := q
    obtain ⟨R, hR⟩ : ∃ R, R = cutGo bs c g c ds := ⟨_, rfl⟩
    rw [← hR] at q1
    refine for_list (K := K) (a := lq) (xs := xs) (fun i σ H' => ∃ day v4, σ = [some (.ref p), some (.ref a), some (.ref lq), some (.int day), v4] ∧ Same H H' ∧ R = cutGo bs c g day (ds.drop i)) ⟨_, _, rfl, Same.refl _, hR⟩ (fun i σ H' _ h' => by obtain ⟨_, _, _, h', _⟩ := h'; exact SqL.of (h' _ _ h)) ?_ ?_
    · rintro i x σ H' hi ⟨day, v4, rfl, sm, hr⟩
      obtain ⟨d, hd, hx⟩ := ats_get (Ats.mono (fun a o e _ => sm a o e) (fun _ z => z) r) hi
      have ed : ds.drop i = d :: ds.drop (i + 1) := by
        have lt := (List.getElem?_eq_some_iff.mp hd).1
        rw [List.drop_eq_getElem_cons lt, (List.getElem?_eq_some_iff.mp hd).2]
      rw [ed] at hr
      have B1 := B.same sm
      walk_at "ss"
      refine g_is_part cf cb B1 hx fun H2 s2 => ?_
      have sm2 := sm.trans s2
      have hx2 := hx.same s2
      walk_at "ss"
      cases hp : isPartD bs c g d with
      | false =>
        walk_at "ss"
        have : R = false := by
          rw [hr]
          unfold cutGo
          split
          · rename_i e; cases e
          · rename_i e
            cases e
            rw [hp]
            rfl
          · rfl
        rw [this] at q1
        exact q1 _ sm2
      | true =>
        obtain ⟨b, e, k, rfl, -, -⟩ := isPart_ex hp
        have hr' : R = (isPartD bs c g (.tuple [.int b, .int e, .int k]) && (decide (b = day) && cutGo bs c g e (ds.drop (i + 1)))) := hr
        rw [hp, Bool.true_and] at hr'
        cases hx2 with
        | tup n2 h2 r2 =>
          rename_i tq ys
          match ys, r2 with
          | [_, _, _], .cons a1 (.cons a2 (.cons a3 .nil)) =>
            cases a1
            cases a2
            cases a3
            walk_at "ss"
            rw [int_eq]
            refine ite_nd (fun z => ?_) fun z => ?_
            · walk_at "ss"
              rw [decide_eq_true z, Bool.true_and] at hr'
              exact ⟨_, _, rfl, sm2, hr'⟩
            · walk_at "ss"
              rw [decide_eq_false z, Bool.false_and] at hr'
              rw [hr'] at q1
              exact q1 _ sm2
    · rintro σ H' ⟨day, v4, rfl, sm, hr⟩
      have S1 := Same.seqT sm S
      walk_at "ss"
      rw [show ds.drop xs.length = [] by rw [hl]; simp] at hr
      have hr' : R = decide (day = g) := hr
      rw [int_eq, ← hr']
      exact q1 _ sm
  | _ =>
    walk_at "ss"
    exact q0
/-! YNn: what stays cost is not below 0. -/
open PySem PySem.Spec PyProof.Rows L2
theorem coin_nn {d : PyData} (f : isCoins d = true) : ∃ i, d = .int i ∧ 0 ≤ i ∧ i ≤ 1000000000000 := by
  cases d <;> simp [isCoins] at f
  exact ⟨_, rfl, f⟩
theorem price_nn {rs : List RuleD} (g : ∀ r ∈ rs, RuleD.good r) (day : Int) : 0 ≤ numI rs .price day ∧ numI rs .price day ≤ 1000000000000 := by
  have f := tells_fits g .price day
  unfold numI
  have h : (isNone (tellsD rs .price day) || isCoins (tellsD rs .price day)) = true := f
  cases z : isCoins (tellsD rs .price day) with
  | true =>
    obtain ⟨i, e, h⟩ := coin_nn z
    rw [e]
    exact h
  | false =>
    rw [z, Bool.or_false] at h
    cases e : tellsD rs .price day <;> rw [e] at h <;> first | (simp; done) | cases h
theorem fee_nn {rs : List RuleD} (g : ∀ r ∈ rs, RuleD.good r) (day : Int) : 0 ≤ numI rs .fee day ∧ numI rs .fee day ≤ 1000000000000 := by
  obtain ⟨i, e, h⟩ := coin_nn (tells_fits g .fee day)
  unfold numI
  rw [e]
  exact h
theorem sum_nn : ∀ {l : List Int}, (∀ x ∈ l, 0 ≤ x) → 0 ≤ l.sum
  | [], _ => by simp
  | x :: l, h => by
    have h1 := h x List.mem_cons_self
    have h2 := sum_nn (l := l) fun y hy => h y (List.mem_cons_of_mem _ hy)
    rw [List.sum_cons]
    omega
theorem sumD_nn {rs : List RuleD} (g : ∀ r ∈ rs, RuleD.good r) (c e : Int) : 0 ≤ sumD rs c e := by
  unfold sumD
  have h1 := (fee_nn g c).1
  have h2 : 0 ≤ (paidL rs c e).sum := sum_nn fun x hx => by
    unfold paidL at hx
    obtain ⟨r, hr, h⟩ := List.mem_filterMap.mp hx
    unfold rowsL at hr
    obtain ⟨i, hi, rfl⟩ := List.mem_map.mp hr
    have hi := List.mem_range.mp hi
    by_cases z : (rowOf rs c e i).2.2 = true
    · rw [if_pos z] at h; cases h
    · rw [if_neg z] at h
      obtain rfl := Option.some.inj h
      show 0 ≤ (pricesL rs c e).getD i 0
      unfold pricesL
      rw [List.getD_eq_getElem?_getD, List.getElem?_map]
      cases q : (days c e)[i]? with
      | none => simp
      | some n => exact (price_nn g n).1
  omega
theorem coins_nn {bs : List (List RuleD)} (g : ∀ rs ∈ bs, ∀ r ∈ rs, RuleD.good r) : ∀ (k : Nat) (rs : List RuleD) (b e x : Int), bs[k]? = some rs → coinO rs b e = some x → 0 ≤ x := fun k rs b e x hk hx => by
  obtain ⟨-, rfl⟩ := coinO_had.mp hx
  exact sumD_nn (g rs (List.mem_of_getElem? hk)) b e
/-! YBq: what is told of the best. -/
open PySem PySem.Spec PyProof.Rows L2
theorem paper_had {bs : List (List RuleD)} {c g : Int} (gd : GoodB bs) (h : c < g) (ho : offB bs c g = false) {k : Nat} {rs : List RuleD} {b e : Int} (hk : bs[k]? = some rs) (hb : c ≤ b) (he : b < e) (hg : e ≤ g) (hd : hadB rs b e = true) :
    ¬ sumD rs b e < (((paperL bs c g).take (e - c).toNat).drop (b - c).toNat).sum := by
  have hW := ways_WI bs (show c ≤ g by omega)
  have h1 := paper_part hW (coins_nn gd) hk hb he hg (coinO_had.mpr ⟨hd, rfl⟩)
  rw [List.drop_take, show (e - c).toNat - (b - c).toNat = (e - b).toNat by omega]
  have h2 := paper_sum (waysF bs c g) c g (e - b).toNat b hb (by omega)
  rw [show b + (((e - b).toNat : Nat) : Int) = e by omega] at h2
  unfold paperL
  omega
theorem paper_all {bs : List (List RuleD)} {c g : Int} (h : c < g) (ho : offB bs c g = false) : (paperL bs c g).sum = coinsL bs c g := by
  have hW := ways_WI bs (show c ≤ g by omega)
  have h2 := paper_sum (waysF bs c g) c g (g - c).toNat c (Int.le_refl _) (by omega)
  rw [show c + (((g - c).toNat : Nat) : Int) = g by omega, show (c - c).toNat = 0 by omega, List.drop_zero, List.take_of_length_le (by rw [paper_len]; exact Nat.le_refl _)] at h2
  unfold paperL
  rw [h2]
  unfold heightF coinsL costF
  rw [hW.start]
  unfold offB at ho
  cases hg : waysF bs c g g with
  | none => rw [hg] at ho; cases ho
  | some w => simp
theorem mem_shut {bs : List (List RuleD)} {c g d : Int} (h : c ≤ g) : d ∈ shutL bs c g ↔ (waysF bs c g d).isSome = true := by
  unfold shutL shutF
  rw [List.mem_filter, mem_days]
  constructor
  · exact fun h => h.2
  · intro hd
    obtain ⟨w, hw⟩ := Option.isSome_iff_exists.mp hd
    have := (ways_WI bs h).rng d w hw
    exact ⟨by omega, hd⟩
theorem shut_up (bs : List (List RuleD)) (c g : Int) : (shutL bs c g).Pairwise (· < ·) := by
  unfold shutL shutF
  refine List.Pairwise.filter _ ?_
  unfold days
  rw [List.pairwise_map]
  exact List.pairwise_lt_range.imp fun h => by omega
theorem shut_len (bs : List (List RuleD)) {c g : Int} (h : g ≤ c + 14) : (shutL bs c g).length ≤ 15 := by
  unfold shutL shutF
  refine Nat.le_trans (List.length_filter_le _ _) ?_
  rw [days_len]
  omega
theorem shut_start {bs : List (List RuleD)} {c g : Int} (h : c ≤ g) : c ∈ shutL bs c g := (mem_shut h).mpr (by rw [(ways_WI bs h).start]; rfl)
theorem shut_not {bs : List (List RuleD)} {c g : Int} (h : c ≤ g) (ho : offB bs c g = true) : ¬ g ∈ shutL bs c g := fun m => by
  have := (mem_shut h).mp m
  unfold offB at ho
  cases hg : waysF bs c g g with
  | none => rw [hg] at this; cases this
  | some w => rw [hg] at ho; cases ho
theorem shut_rng {bs : List (List RuleD)} {c g : Int} (h : c ≤ g) (ho : offB bs c g = true) {d : Int} (m : d ∈ shutL bs c g) : c ≤ d ∧ d < g := by
  have h1 := (mem_shut h).mp m
  obtain ⟨w, hw⟩ := Option.isSome_iff_exists.mp h1
  have h2 := (ways_WI bs h).rng d w hw
  have h3 : d ≠ g := fun z => shut_not h ho (z ▸ m)
  omega
theorem shut_closed {bs : List (List RuleD)} {c g : Int} (h : c ≤ g) {d e : Int} (m : d ∈ shutL bs c g) (hd : d < g) {k : Nat} {rs : List RuleD} (hk : bs[k]? = some rs) (he : d < e) (hg : e ≤ g) (hh : hadB rs d e = true) : e ∈ shutL bs c g := by
  obtain ⟨w, hw⟩ := Option.isSome_iff_exists.mp ((mem_shut h).mp m)
  obtain ⟨w', h1, -⟩ := (ways_WI bs h).closed d w hd hw k rs e _ hk he hg (coinO_had.mpr ⟨hh, rfl⟩)
  exact (mem_shut h).mpr (by rw [h1]; rfl)
/-! YLb: the looker at papers. -/
open PySem PySem.Spec PyProof.Rows L2
/-- all parts, by their ends and what they cost -/
def prRow (rs : List RuleD) (b g : Int) : List Pt := (days (b + 1) (g + 1)).filterMap fun e => (coinO rs b e).map fun x => (b, e, x)
def prDay (bs : List (List RuleD)) (g b : Int) : List Pt := bs.flatMap fun rs => prRow rs b g
def pricedL (bs : List (List RuleD)) (c g : Int) : List Pt := (days c g).flatMap (prDay bs g)
theorem mem_priced {bs : List (List RuleD)} {c g : Int} {p : Pt} : p ∈ pricedL bs c g ↔ c ≤ p.1 ∧ p.1 < p.2.1 ∧ p.2.1 ≤ g ∧ ∃ rs ∈ bs, coinO rs p.1 p.2.1 = some p.2.2 := by
  unfold pricedL prDay prRow
  simp only [List.mem_flatMap, List.mem_filterMap]
  obtain ⟨b, e, x⟩ := p
  constructor
  · rintro ⟨d, hd, rs, hrs, e', he, h⟩
    have h1 := mem_days.mp hd
    have h2 := mem_days.mp he
    cases hc : coinO rs d e' with
    | none => rw [hc] at h; cases h
    | some y =>
      rw [hc] at h
      cases h
      exact ⟨h1.1, by dsimp only; omega, by dsimp only; omega, rs, hrs, hc⟩
  · rintro ⟨h1, h2, h3, rs, hrs, h4⟩
    dsimp only at h1 h2 h3 h4
    exact ⟨b, mem_days.mpr ⟨h1, by omega⟩, rs, hrs, e, mem_days.mpr ⟨by omega, by omega⟩, by rw [h4]; rfl⟩
def sp_priced_parts (K : PySem.W.Frag) : Sp := Sp2 fun v y H Q E => CFR K ∧ CFB K ∧ ∃ (p a : Addr) (vs : List V) (bs : List (List RuleD)) (c g : Int), v = .ref p ∧ y = .ref a ∧ Bst K H p a vs bs c g ∧
  ∀ (q : Addr) (ys : List V) (H' : Hp), Same H H' → Fr H q → H' q = some (.lst ys) → Tds H' ys ((pricedL bs c g).map ptD) → ys.length ≤ 3000 → Q (.ref q) H'
theorem g_priced_parts {K : PySem.W.Frag} {p a : Addr} {vs : List V} {bs : List (List RuleD)} {c g : Int} {H : Hp} {Q : VK} {E : XK} (cf : CFR K) (cb : CFB K) (h : Bst K H p a vs bs c g)
    (q : ∀ (q : Addr) (ys : List V) (H' : Hp), Same H H' → Fr H q → H' q = some (.lst ys) → Tds H' ys ((pricedL bs c g).map ptD) → ys.length ≤ 3000 → Q (.ref q) H') : sp_priced_parts K ([.ref p, .ref a] ++ []) H Q E := ⟨_, _, rfl, cf, cb, p, a, vs, bs, c, g, rfl, rfl, h, q⟩
def sp_cost_of (K : PySem.W.Frag) : Sp := Sp2 fun v y H Q E => CFR K ∧ CFB K ∧ ∃ (p a t : Addr) (vs : List V) (bs : List (List RuleD)) (c g b e k : Int), v = .ref p ∧ y = .ref t ∧ Bst K H p a vs bs c g ∧ H t = some (.tup [.int b, .int e, .int k]) ∧ b < e ∧ partB bs c g b e k = true ∧ ∀ H', Same H H' → Q (.int (ptCost bs (b, e, k))) H'
theorem g_cost_of {K : PySem.W.Frag} {p a t : Addr} {vs : List V} {bs : List (List RuleD)} {c g b e k : Int} {H : Hp} {Q : VK} {E : XK} (cf : CFR K) (cb : CFB K) (h : Bst K H p a vs bs c g) (ht : H t = some (.tup [.int b, .int e, .int k])) (be : b < e) (hp : partB bs c g b e k = true) (q : ∀ H', Same H H' → Q (.int (ptCost bs (b, e, k))) H') : sp_cost_of K ([.ref p, .ref t] ++ []) H Q E :=
  ⟨_, _, rfl, cf, cb, p, a, t, vs, bs, c, g, b, e, k, rfl, rfl, h, ht, be, hp, q⟩
/-- whole numbers out of data -/
def intsD : List PyData → Option (List Int)
  | [] => some []
  | .int i :: r => (intsD r).map fun l => i :: l
  | _ :: _ => none
theorem ats_ints {H : Hp} {L : List Addr} : ∀ {xs : List V} {ds : List PyData}, Ats H L xs ds → (∃ ns, intsD ds = some ns ∧ xs = ns.map V.int ∧ ds.all isW = true) ∨ (intsD ds = none ∧ ds.all isW = false)
  | _, _, .nil => .inl ⟨[], rfl, rfl, rfl⟩
  | _, _, .cons h r => by
    cases h with
    | int i =>
      rcases ats_ints r with ⟨ns, h1, h2, h3⟩ | ⟨h1, h2⟩
      · refine .inl ⟨i :: ns, ?_, by rw [h2]; rfl, ?_⟩
        · show (intsD _).map _ = _
          rw [h1]
          rfl
        · rw [List.all_cons, h3]; rfl
      · refine .inr ⟨?_, ?_⟩
        · show (intsD _).map _ = _
          rw [h1]
          rfl
        · rw [List.all_cons, h2, Bool.and_false]
    | _ => exact .inr ⟨rfl, by rw [List.all_cons]; rfl⟩
/-- whether whole numbers are a paper of the days c to g that comes to the coins -/
def paperB (bs : List (List RuleD)) (c g x : Int) (ns : List Int) : Bool := decide ((ns.length : Int) = g - c) && (decide (ns.sum = x) && (pricedL bs c g).all fun p => !decide (p.2.2 < ((ns.take (p.2.1 - c).toNat).drop (p.1 - c).toNat).sum))
def isPaperD (bs : List (List RuleD)) (c g x : Int) : PyData → Bool
  | .list ds => match intsD ds with
    | some ns => paperB bs c g x ns
    | none => false
  | _ => false
def shutB (bs : List (List RuleD)) (c g : Int) (ns : List Int) : Bool := decide (ns = (days c g).filter fun d => decide (d ∈ ns)) && (decide (c ∈ ns) && !((pricedL bs c g).any fun p => decide (p.1 ∈ ns) && !decide (p.2.1 ∈ ns)))
def isShutD (bs : List (List RuleD)) (c g : Int) : PyData → Bool
  | .list ds => match intsD ds with
    | some ns => shutB bs c g ns
    | none => false
  | _ => false
/-- lists within the line -/
def Wide : PyData → Prop | .list ds => ds.length ≤ 1000 | _ => True
def sp_is_paper (K : PySem.W.Frag) : Sp := Sp4 fun x y z u H Q E => CFR K ∧ CFB K ∧ ∃ (p a : Addr) (vs : List V) (bs : List (List RuleD)) (c g i : Int) (d : PyData), x = .ref p ∧ y = .ref a ∧ z = .int i ∧ Bst K H p a vs bs c g ∧ At H [] u d ∧ Wide d ∧ ∀ H', Same H H' → Q (.bl (isPaperD bs c g i d)) H'
def sp_is_shut (K : PySem.W.Frag) : Sp := Sp3 fun x y u H Q E => CFR K ∧ CFB K ∧ ∃ (p a : Addr) (vs : List V) (bs : List (List RuleD)) (c g : Int) (d : PyData), x = .ref p ∧ y = .ref a ∧ Bst K H p a vs bs c g ∧ At H [] u d ∧ Wide d ∧ ∀ H', Same H H' → Q (.bl (isShutD bs c g d)) H'
theorem g_is_paper {K : PySem.W.Frag} {p a : Addr} {vs : List V} {bs : List (List RuleD)} {c g i : Int} {z : V} {d : PyData} {H : Hp} {Q : VK} {E : XK} (cf : CFR K) (cb : CFB K) (B : Bst K H p a vs bs c g) (h : At H [] z d) (w : Wide d) (q : ∀ H', Same H H' → Q (.bl (isPaperD bs c g i d)) H') : sp_is_paper K ([.ref p, .ref a, .int i, z] ++ []) H Q E :=
  ⟨_, _, _, _, rfl, cf, cb, p, a, vs, bs, c, g, i, d, rfl, rfl, rfl, B, h, w, q⟩
theorem g_is_shut {K : PySem.W.Frag} {p a : Addr} {vs : List V} {bs : List (List RuleD)} {c g : Int} {z : V} {d : PyData} {H : Hp} {Q : VK} {E : XK} (cf : CFR K) (cb : CFB K) (B : Bst K H p a vs bs c g) (h : At H [] z d) (w : Wide d) (q : ∀ H', Same H H' → Q (.bl (isShutD bs c g d)) H') : sp_is_shut K ([.ref p, .ref a, z] ++ []) H Q E :=
  ⟨_, _, _, rfl, cf, cb, p, a, vs, bs, c, g, d, rfl, rfl, B, h, w, q⟩
theorem tds_getD {α : Type} {H : Hp} {ys : List V} {L : List α} {φ : α → PyData} {i : Nat} {x : V} (hT : Tds H ys (L.map φ)) (hi : ys[i]? = some x) : ∃ p, L[i]? = some p ∧ Td H x (φ p) := by
  obtain ⟨d, hd, tx⟩ := tds_get hT hi
  rw [List.getElem?_map] at hd
  cases e : L[i]? with
  | none => rw [e] at hd; cases hd
  | some y =>
    rw [e] at hd
    obtain rfl : φ y = d := Option.some.inj hd
    exact ⟨y, rfl, tx⟩
theorem fm_flt (P : Int → Bool) (l : List Int) : l.filterMap (fun d => if P d = true then some (V.int d) else none) = (l.filter P).map V.int := by
  induction l with
  | nil => rfl
  | cons d l ih =>
    rw [List.filterMap_cons, List.filter_cons]
    cases h : P d with
    | true => simp only [if_true, List.map_cons, ih]
    | false => simp only [Bool.false_eq_true, if_false, ih]
/-- the parts of data that is a cut -/
def ptsD : List PyData → List Pt
  | .tuple [.int b, .int e, .int k] :: r => (b, e, k) :: ptsD r
  | _ => []
def offD (bs : List (List RuleD)) (c g : Int) : List PyData → Bool
  | [d] => isShutD bs c g d
  | _ => false
def hadD (bs : List (List RuleD)) (c g : Int) : List PyData → Bool
  | [.int x, .list ds, d] => isCutD bs c g (.list ds) && (decide (((ptsD ds).map (ptCost bs)).sum = x) && isPaperD bs c g x d)
  | _ => false
def letsD (bs : List (List RuleD)) (c g : Int) : PyData → Bool
  | .tuple (.str z :: r) => if z = "off" then offD bs c g r else if z = "had" then hadD bs c g r else false
  | _ => false
theorem hadD_len {bs : List (List RuleD)} {c g : Int} {r : List PyData} (h : r.length ≠ 3) : hadD bs c g r = false := by
  unfold hadD
  split
  · exact absurd rfl h
  · rfl
theorem hadD_int {bs : List (List RuleD)} {c g : Int} {d1 d2 d3 : PyData} (h : isW d1 = false) : hadD bs c g [d1, d2, d3] = false := by
  unfold hadD
  split
  · rename_i e; cases e; cases h
  · rfl
theorem hadD_cut {bs : List (List RuleD)} {c g x : Int} {d2 d3 : PyData} (h : isCutD bs c g d2 = false) : hadD bs c g [.int x, d2, d3] = false := by
  unfold hadD
  split
  · rename_i e; cases e; rw [h]; rfl
  · rfl
theorem cutGo_pts {bs : List (List RuleD)} {c g : Int} : ∀ {ds : List PyData} {day : Int}, cutGo bs c g day ds = true → ds = (ptsD ds).map ptD ∧ ∀ p ∈ ptsD ds, p.1 < p.2.1 ∧ partB bs c g p.1 p.2.1 p.2.2 = true
  | [], _, _ => ⟨rfl, by simp [ptsD]⟩
  | d :: ds, day, h => by
    unfold cutGo at h
    split at h
    · rename_i e; cases e
    · rename_i b e k r e'
      cases e'
      obtain ⟨h1, h2⟩ := Bool.and_eq_true_iff.mp h
      obtain ⟨h3, h4⟩ := Bool.and_eq_true_iff.mp h2
      obtain ⟨i1, i2⟩ := cutGo_pts h4
      obtain ⟨b', e', k', e1, e2, e3⟩ := isPart_ex h1
      cases e1
      refine ⟨?_, fun p hp => ?_⟩
      · show _ :: ds = ptD (b, e, k) :: (ptsD ds).map ptD
        rw [← i1]
        rfl
      · rcases List.mem_cons.mp (show p ∈ (b, e, k) :: ptsD ds from hp) with rfl | hp
        · exact ⟨(isStay_b e2).2.2.1, e3⟩
        · exact i2 p hp
    · cases h
theorem at_pt {H : Hp} {L : List Addr} {x : V} {p : Pt} (h : At H L x (ptD p)) : ∃ t, x = .ref t ∧ H t = some (.tup [.int p.1, .int p.2.1, .int p.2.2]) := by
  unfold ptD at h
  cases h with
  | tup n h r =>
    cases r with
    | cons a r =>
      cases r with
      | cons b r =>
        cases r with
        | cons d r =>
          cases r
          cases a
          cases b
          cases d
          exact ⟨_, rfl, h⟩
def WideT : PyData → Prop | .tuple ds => ds.length ≤ 1000 ∧ ∀ e ∈ ds, Wide e | _ => True
def sp_lets_by (K : PySem.W.Frag) : Sp := Sp3 fun x y z H Q E => CFR K ∧ CFB K ∧ ∃ (p a : Addr) (vs : List V) (bs : List (List RuleD)) (c g : Int) (d : PyData), x = .ref p ∧ y = .ref a ∧ Bst K H p a vs bs c g ∧ At H [] z d ∧ WideT d ∧ ∀ H', Same H H' → Q (.bl (letsD bs c g d)) H'
theorem g_lets_by {K : PySem.W.Frag} {p a : Addr} {vs : List V} {bs : List (List RuleD)} {c g : Int} {z : V} {d : PyData} {H : Hp} {Q : VK} {E : XK} (cf : CFR K) (cb : CFB K) (B : Bst K H p a vs bs c g) (h : At H [] z d) (w : WideT d) (q : ∀ H', Same H H' → Q (.bl (letsD bs c g d)) H') : sp_lets_by K ([.ref p, .ref a, z] ++ []) H Q E :=
  ⟨_, _, _, rfl, cf, cb, p, a, vs, bs, c, g, d, rfl, rfl, B, h, w, q⟩
def t_cost_of (K : PySem.W.Frag) : TS :=
  (tRet (tCall (sp_cost K) [] E0 (tCons (tOp (rIxL K) (tVar 0) (tOp (rIxT K) (tVar 1) (tC (.int 2)))) (tCons (tTup (tCons (tOp (rIxT K) (tVar 1) (tC (.int 0))) (tCons (tOp (rIxT K) (tVar 1) (tC (.int 1))) tNil))) tNil))))
theorem pure_cost_of {K : PySem.W.Frag} {v y : V} {H : Hp} {Q : VK} {E : XK} (h : sp_cost_of K [v, y] H Q E) : t_cost_of K { nx := fun _ H' => Q .non H', rt := Q } [some v, some y] H := by
  obtain ⟨v, y, e, cf, cb, p, a, t, vs, bs, c, g, b, e', k, rfl, rfl, B, ht, be, hp, q⟩ := h
  cases e
  unfold t_cost_of
  have hsq := B.seq
  obtain ⟨c0, c1, c2, c3⟩ := B.stay
  obtain ⟨h1, h2, n, rs, rfl, hn, hh⟩ := partB_b hp
  obtain ⟨bv, hbv, F, hbk⟩ := Paired.getR B.bks hn
  have gr : ∀ r ∈ rs, RuleD.good r := B.good rs (List.mem_of_getElem? hn)
  walk_at "ss"
  refine g_ixL hsq (atI_nat hbv) ?_
  walk_at "ss"
  rename_i t5 ht5
  refine g_cost (F := F) cf cb (bk_new ht5 hbk) gr (SqT.of upd_same) ⟨by omega, by omega, by omega, by omega⟩ hh fun H5 s5 => ?_
  have := q _ ((same_new (o := .tup [.int b, .int e']) ht5).trans s5)
  unfold ptCost at this
  rw [Int.toNat_natCast, hn] at this
  exact this
def t_priced_parts (K : PySem.W.Frag) : TS :=
  (tSeq (tAsg (tLst tNil) (gName 2))
  (tSeq (tFor (iRng2 (tCons (tOp (rIxT K) (tVar 1) (tC (.int 0))) (tCons (tOp (rIxT K) (tVar 1) (tC (.int 1))) tNil))) (gName 3)
  (tFor (iList K (tVar 0)) (gName 4)
  (tFor (iRng2 (tCons (tOp rAdd (tVar 3) (tC (.int 1))) (tCons (tOp rAdd (tOp (rIxT K) (tVar 1) (tC (.int 1))) (tC (.int 1))) tNil))) (gName 5)
  (tSeq (tAsg (tCall (sp_coins_of K) [] E0 (tCons (tVar 4) (tCons (tTup (tCons (tVar 3) (tCons (tVar 5) tNil))) tNil))) (gName 6))
  (tIfS (tTest (tOp rNotN (tVar 6) (tC .non)))
  (tDrop (tBM K "list" rAppend (tVar 2) (tCons (tTup (tCons (tVar 3) (tCons (tVar 5) (tCons (tVar 6) tNil)))) tNil)))
  tNext)))))
  (tRet (tVar 2))))
theorem pure_priced_parts {K : PySem.W.Frag} {v y : V} {H : Hp} {Q : VK} {E : XK} (h : sp_priced_parts K [v, y] H Q E) : t_priced_parts K { nx := fun _ H' => Q .non H', rt := Q } [some v, some y, none, none, none, none, none] H := by
  obtain ⟨v, y, e, cf, cb, p, a, vs, bs, c, g, rfl, rfl, B, q⟩ := h
  cases e
  unfold t_priced_parts
  have hvl := Paired.length B.bks
  obtain ⟨c0, c1, c2, c3⟩ := B.stay
  have few := B.few
  have st := B.st
  walk_at "ss"
  rename_i fl hfl
  have s0 : Same H (upd H fl (.lst [])) := same_new hfl
  have st0 := Same.seqT s0 st
  have e : ∀ (A : List Pt) (L : List Int) (φ : Int → Option Pt) (x : Pt) (d : Int), φ d = some x → (A ++ (L ++ (some d).toList).filterMap φ).map ptD = (A ++ L.filterMap φ).map ptD ++ [ptD x] := fun A L φ x d h => by
    simp [List.filterMap_append, h]
  have e0 : ∀ (A : List Pt) (L : List Int) (φ : Int → Option Pt) (d : Int), φ d = none → (A ++ (L ++ (some d).toList).filterMap φ).map ptD = (A ++ L.filterMap φ).map ptD := fun A L φ d h => by
    simp [List.filterMap_append, h]
  walk_at "ss"
  refine for_range (lo := c) (n := (g - c).toNat) (fun i σ H' => ∃ v3 v4 v5 v6 ys, σ = [some (.ref p), some (.ref a), some (.ref fl), v3, v4, v5, v6] ∧ Same H H' ∧ H' fl = some (.lst ys) ∧ Tds H' ys ((((days c g).take i).flatMap (prDay bs g)).map ptD) ∧ ys.length ≤ 200 * i)
    ⟨_, _, _, _, [], rfl, s0, upd_same, .nil, by simp⟩ ?_ ?_
  · rintro i σ H' hi ⟨v3, v4, v5, v6, ys, rfl, sm, hys, hT, hyl⟩
    have hsq := Same.seq sm B.seq
    have hdi : (days c g)[i]? = some (c + (i : Int)) := days_get (by omega)
    rw [List.take_add_one, hdi]
    walk_at "ss"
    refine for_list (K := K) (a := p) (xs := vs) (fun j σ H' => ∃ v4 v5 v6 ys, σ = [some (.ref p), some (.ref a), some (.ref fl), some (.int (c + (i : Int))), v4, v5, v6] ∧ Same H H' ∧ H' fl = some (.lst ys) ∧ Tds H' ys ((((days c g).take i).flatMap (prDay bs g) ++ (bs.take j).flatMap fun rs => prRow rs (c + (i : Int)) g).map ptD) ∧ ys.length ≤ 200 * i + 20 * j)
      ⟨_, _, _, ys, rfl, sm, hys, by simpa using hT, by omega⟩ (fun j σ H' _ h => by obtain ⟨_, _, _, _, _, h, _⟩ := h; exact Same.seq h B.seq) ?_ ?_
    · clear hys hT sm hsq hyl ys
      rintro j x σ H' hj ⟨v4, v5, v6, ys, rfl, sm, hys, hT, hyl⟩
      obtain ⟨rs, hrs, hbk⟩ := Paired.getL B.bks hj
      have gr : ∀ r ∈ rs, RuleD.good r := B.good rs (List.mem_of_getElem? hrs)
      have hj' : j < bs.length := (List.getElem?_eq_some_iff.mp hrs).1
      have st2 := Same.seqT sm st
      walk_at "ss"
      refine for_range (lo := c + (i : Int) + 1) (n := (g + 1 - (c + (i : Int) + 1)).toNat) (fun k σ H3 => ∃ v5 v6 ys, σ = [some (.ref p), some (.ref a), some (.ref fl), some (.int (c + (i : Int))), some x, v5, v6] ∧ Same H H3 ∧ H3 fl = some (.lst ys) ∧ Tds H3 ys ((((days c g).take i).flatMap (prDay bs g) ++ ((bs.take j).flatMap fun rs => prRow rs (c + (i : Int)) g) ++ ((days (c + (i : Int) + 1) (g + 1)).take k).filterMap fun e => (coinO rs (c + (i : Int)) e).map fun x => (c + (i : Int), e, x)).map ptD) ∧ ys.length ≤ 200 * i + 20 * j + k)
        ⟨_, _, ys, rfl, sm, hys, by simpa using hT, by omega⟩ ?_ ?_
      · clear hys hT sm st2 hyl ys
        rintro k σ H3 hk ⟨v5, v6, ys, rfl, sm, hys, hT, hyl⟩
        obtain ⟨F, hB⟩ := hbk.same sm
        have hdk : (days (c + (i : Int) + 1) (g + 1))[k]? = some (c + (i : Int) + 1 + (k : Int)) := days_get (by omega)
        walk_at "ss"
        rename_i tp htp
        refine g_coins (F := F) cf cb (bk_new htp hB) gr (SqT.of upd_same) ⟨by omega, by omega, by omega, by omega⟩ fun H4 s4 => ?_
        have sm4 : Same H H4 := (sm_new htp sm).trans s4
        have hys4 := s4 _ _ (at_new htp hys)
        have hT4 := tds_same s4 (tds_new htp hT)
        rw [List.take_add_one, hdk]
        walk_at "ss"
        by_cases hh : hadB rs (c + (i : Int)) (c + (i : Int) + 1 + (k : Int)) = true
        · have ec : coinO rs (c + (i : Int)) (c + (i : Int) + 1 + (k : Int)) = some (sumD rs (c + (i : Int)) (c + (i : Int) + 1 + (k : Int))) := if_pos hh
          rw [if_pos hh]
          refine ite_ndf (by simp) ?_
          walk_at "ss"
          rename_i t1 ht1
          refine ⟨_, _, ys ++ [.ref t1], rfl, sm_own (fr_of hfl (Same.refl _)) (by walk_at "sm"), upd_same, ?_, by rw [List.length_append, List.length_singleton]; omega⟩
          rw [e _ _ _ (c + (i : Int), c + (i : Int) + 1 + (k : Int), sumD rs (c + (i : Int)) (c + (i : Int) + 1 + (k : Int))) _ (by rw [ec]; rfl)]
          exact tds_put (at_new ht1 hys4) (tds_snoc (tds_new ht1 hT4) (td_tup upd_same (.cons (.int _) (.cons (.int _) (.cons (.int _) .nil)))))
        · have ec : coinO rs (c + (i : Int)) (c + (i : Int) + 1 + (k : Int)) = none := if_neg hh
          rw [if_neg hh]
          refine ite_ndt rfl ?_
          walk_at "ss"
          refine ⟨_, _, ys, rfl, sm4, hys4, ?_, by omega⟩
          rw [e0 _ _ _ _ (by rw [ec]; rfl)]
          exact hT4
      · clear hys hT sm st2 hyl ys
        rintro σ H3 ⟨v5, v6, ys, rfl, sm, hys, hT, hyl⟩
        refine ⟨_, _, _, ys, rfl, sm, hys, ?_, by omega⟩
        rw [List.take_of_length_le (l := days (c + (i : Int) + 1) (g + 1)) (by rw [days_len]; exact Nat.le_refl _)] at hT
        rw [List.take_add_one, hrs, List.flatMap_append]
        have : (some rs).toList.flatMap (fun rs => prRow rs (c + (i : Int)) g) = prRow rs (c + (i : Int)) g := by simp
        rw [this, ← List.append_assoc]
        exact hT
    · clear hys hT sm hsq hyl ys
      rintro σ H' ⟨v4, v5, v6, ys, rfl, sm, hys, hT, hyl⟩
      refine ⟨_, _, _, _, ys, rfl, sm, hys, ?_, by omega⟩
      rw [List.take_of_length_le (l := bs) (by omega)] at hT
      rw [List.flatMap_append]
      have : (some (c + (i : Int))).toList.flatMap (prDay bs g) = bs.flatMap fun rs => prRow rs (c + (i : Int)) g := by simp [prDay]
      rw [this]
      exact hT
  · rintro σ H' ⟨v3, v4, v5, v6, ys, rfl, sm, hys, hT, hyl⟩
    walk_at "ss"
    rw [List.take_of_length_le (by rw [days_len]; exact Nat.le_refl _)] at hT
    exact q fl ys H' sm hfl hys hT (by omega)
def t_is_paper (K : PySem.W.Frag) : TS :=
  (tSeq (tIfS (tOr (tNot (tB (tCB (rIsi K) (tCons (tVar 3) (tCons (tC (.ty "list")) tNil))))) (tNot (tB (tCB (rAll K) (tCons (tLc (iList K (tVar 3)) (gName 7) tYes (tCall (sp_is_whole K) [] E0 (tCons (tVar 7) tNil)) [7]) tNil)))))
  (tRet (tC (.bl false)))
  tNext)
  (tSeq (tIfS (tOr (tTest (tOp rNe (tCB (rLen K) (tCons (tVar 3) tNil)) (tOp rSub (tOp (rIxT K) (tVar 1) (tC (.int 1))) (tOp (rIxT K) (tVar 1) (tC (.int 0)))))) (tTest (tOp rNe (tCB (rSum K) (tCons (tVar 3) tNil)) (tVar 2))))
  (tRet (tC (.bl false)))
  tNext)
  (tSeq (tFor (iList K (tCall (sp_priced_parts K) [] E0 (tCons (tVar 0) (tCons (tVar 1) tNil)))) (gTup K 3 (gCons (gName 4) (gCons (gName 5) (gCons (gName 6) gNil))))
  (tIfS (tTest (tOp rLt (tVar 6) (tCB (rSum K) (tCons (tSl (rSlL K) (tVar 3) (tPart (tOp rSub (tVar 4) (tOp (rIxT K) (tVar 1) (tC (.int 0))))) (tPart (tOp rSub (tVar 5) (tOp (rIxT K) (tVar 1) (tC (.int 0)))))) tNil))))
  (tRet (tC (.bl false)))
  tNext))
  (tRet (tC (.bl true))))))
theorem pure_is_paper {K : PySem.W.Frag} {x y z u : V} {H : Hp} {Q : VK} {E : XK} (h : sp_is_paper K [x, y, z, u] H Q E) : t_is_paper K { nx := fun _ H' => Q .non H', rt := Q } [some x, some y, some z, some u, none, none, none, none] H := by
  obtain ⟨x, y, z, u, e, cf, cb, p, a, vs, bs, c, g, i, d, rfl, rfl, rfl, B, hu, w, q⟩ := h
  cases e
  unfold t_is_paper
  obtain ⟨c0, c1, c2, c3⟩ := B.stay
  have S := B.st
  have q0 := q H (Same.refl _)
  cases hu with
  | lst n h r =>
    rename_i lq xs ds
    have hl := Ats.len r
    have wl : ds.length ≤ 1000 := w
    walk_at "ss"
    refine lc_w (f := fun i => (ds[i]?).bind fun d => some (V.bl (isW d))) (walk_list (K := K) (a := lq) (xs := xs)) (by omega) (fun H' s => SqL.of (s _ _ h)) ?_ ?_
    · rintro D j x H2 H3 N hD hj s2 ⟨rfl, hx⟩ hy hn
      obtain ⟨d, hd, ax⟩ := ats_get r hx
      have ax2 := ax.same s2
      walk_at "ss"
      exact hy _ _ (by rw [hd]; rfl) (Same.refl _)
    intro D H1 hD s1 h1
    rw [hl, range_flt ds (fun d => some (V.bl (isW d))), fm_map] at h1
    walk_at "ss"
    refine g_all (bs := ds.map isW) (SqL.of (by rw [List.map_map]; exact h1)) ?_
    have eall : (ds.map isW).all id = ds.all isW := by rw [List.all_map]; rfl
    rw [eall]
    rcases ats_ints r with ⟨ns, e1, e2, e3⟩ | ⟨e1, e3⟩
    · rw [e3]
      have qn : ∀ H', Same H H' → Q (.bl (paperB bs c g i ns)) H' := fun H' s => by
        have := q H' s
        unfold isPaperD at this
        dsimp only at this
        rw [e1] at this
        exact this
      have hs1 : H1 lq = some (.lst (ns.map V.int)) := by rw [← e2]; exact s1 _ _ h
      have S1 := Same.seqT s1 S
      walk_at "ss"
      rw [int_eq]
      have ln : ((ns.map V.int).length : Int) = (ns.length : Int) := by rw [List.length_map]
      refine ite_nd (fun z => ?_) fun z => ?_
      · walk_at "ss"
        refine g_sum (SqL.of hs1) ?_
        walk_at "ss"
        rw [int_eq]
        refine ite_nd (fun z2 => ?_) fun z2 => ?_
        · walk_at "ss"
          refine g_priced_parts cf cb (B.same s1) fun pq ys H2 s2 f2 hq hT hyl => ?_
          have e4 : ∀ b, ((pricedL bs c g).all fun p => !decide (p.2.2 < ((ns.take (p.2.1 - c).toNat).drop (p.1 - c).toNat).sum)) = b → paperB bs c g i ns = b := fun b hb => by
            unfold paperB
            rw [hb, decide_eq_true (show (ns.length : Int) = g - c by omega), decide_eq_true z2]
            rfl
          have yl := tds_len hT
          rw [List.length_map] at yl
          have sm2 := s1.trans s2
          walk_at "ss"
          refine for_list (K := K) (a := pq) (xs := ys) (fun k σ H' => ∃ v4 v5 v6, σ = [some (.ref p), some (.ref a), some (.int i), some (.ref lq), v4, v5, v6, none] ∧ Same H2 H' ∧ ∀ p ∈ (pricedL bs c g).take k, (!decide (p.2.2 < ((ns.take (p.2.1 - c).toNat).drop (p.1 - c).toNat).sum)) = true) ⟨_, _, _, rfl, Same.refl _, by simp⟩ (fun k σ H' _ h => by obtain ⟨_, _, _, _, h, _⟩ := h; exact SqL.of (h _ _ hq)) ?_ ?_
          · rintro k x σ H' hk ⟨v4, v5, v6, rfl, sm, hall⟩
            obtain ⟨pt, hpt, tx⟩ := tds_getD (tds_same sm hT) hk
            obtain ⟨m1, m2, m3, -⟩ := mem_priced.mp (List.mem_of_getElem? hpt)
            obtain ⟨tq, rfl, htq⟩ := td_pt tx
            have sm3 := sm2.trans sm
            have S3 := Same.seqT sm3 S
            have hs3 : H' lq = some (.lst (ns.map V.int)) := sm _ _ (s2 _ _ hs1)
            walk_at "ss"
            rename_i sl hsl
            refine g_sum (ns := ((ns.take (pt.2.1 - c).toNat).drop (pt.1 - c).toNat)) (by rw [List.map_drop, List.map_take]; exact SqL.of upd_same) ?_
            walk_at "ss"
            refine ite_d (fun z3 => ?_) fun z3 => ?_
            · walk_at "ss"
              have := qn _ (sm_new (o := .lst (((ns.map V.int).take (pt.2.1 - c).toNat).drop (pt.1 - c).toNat)) hsl sm3)
              rw [e4 false (List.all_eq_false.mpr ⟨pt, List.mem_of_getElem? hpt, by rw [decide_eq_true z3]; decide⟩)] at this
              exact this
            · walk_at "ss"
              refine ⟨_, _, _, rfl, sm_new hsl sm, fun p hp => ?_⟩
              rw [List.take_add_one, hpt] at hp
              rcases List.mem_append.mp hp with hp | hp
              · exact hall p hp
              · obtain rfl : p = pt := by simpa using hp
                rw [decide_eq_false z3]
                rfl
          · rintro σ H' ⟨v4, v5, v6, rfl, sm, hall⟩
            walk_at "ss"
            rw [List.take_of_length_le (by omega)] at hall
            have := qn _ (sm2.trans sm)
            rw [e4 true (List.all_eq_true.mpr hall)] at this
            exact this
        · walk_at "ss"
          have := qn _ s1
          unfold paperB at this
          rw [decide_eq_true (show (ns.length : Int) = g - c by omega), decide_eq_false z2] at this
          exact this
      · walk_at "ss"
        have := qn _ s1
        unfold paperB at this
        rw [decide_eq_false (show ¬ (ns.length : Int) = g - c by omega)] at this
        exact this
    · rw [e3]
      walk_at "ss"
      have := q _ s1
      unfold isPaperD at this
      dsimp only at this
      rw [e1] at this
      exact this
  | _ =>
    walk_at "ss"
    exact q0
def t_is_shut (K : PySem.W.Frag) : TS :=
  (tSeq (tIfS (tOr (tNot (tB (tCB (rIsi K) (tCons (tVar 2) (tCons (tC (.ty "list")) tNil))))) (tNot (tB (tCB (rAll K) (tCons (tLc (iList K (tVar 2)) (gName 3) tYes (tCall (sp_is_whole K) [] E0 (tCons (tVar 3) tNil)) [3]) tNil)))))
  (tRet (tC (.bl false)))
  tNext)
  (tSeq (tIfS (tOr (tTest (tOp (rNeD K) (tVar 2) (tLc (iRng2 (tCons (tOp (rIxT K) (tVar 1) (tC (.int 0))) (tCons (tOp (rIxT K) (tVar 1) (tC (.int 1))) tNil))) (gName 3) (tTest (tOp (rIn K false) (tVar 3) (tVar 2))) (tVar 3) [3]))) (tTest (tOp (rIn K true) (tOp (rIxT K) (tVar 1) (tC (.int 0))) (tVar 2))))
  (tRet (tC (.bl false)))
  tNext)
  (tRet (tNotV (tCB (rAny K) (tCons (tLc (iList K (tCall (sp_priced_parts K) [] E0 (tCons (tVar 0) (tCons (tVar 1) tNil)))) (gTup K 3 (gCons (gName 4) (gCons (gName 5) (gCons (gName 6) gNil)))) tYes (tAndV (tOp (rIn K false) (tVar 4) (tVar 2)) (tOp (rIn K true) (tVar 5) (tVar 2))) [4, 5, 6]) tNil))))))
theorem pure_is_shut {K : PySem.W.Frag} {x y u : V} {H : Hp} {Q : VK} {E : XK} (h : sp_is_shut K [x, y, u] H Q E) : t_is_shut K { nx := fun _ H' => Q .non H', rt := Q } [some x, some y, some u, none, none, none, none] H := by
  obtain ⟨x, y, u, e, cf, cb, p, a, vs, bs, c, g, d, rfl, rfl, B, hu, w, q⟩ := h
  cases e
  unfold t_is_shut
  obtain ⟨c0, c1, c2, c3⟩ := B.stay
  have S := B.st
  have q0 := q H (Same.refl _)
  cases hu with
  | lst n h r =>
    rename_i lq xs ds
    have hl := Ats.len r
    have wl : ds.length ≤ 1000 := w
    walk_at "ss"
    refine lc_w (f := fun i => (ds[i]?).bind fun d => some (V.bl (isW d))) (walk_list (K := K) (a := lq) (xs := xs)) (by omega) (fun H' s => SqL.of (s _ _ h)) ?_ ?_
    · rintro D j x H2 H3 N hD hj s2 ⟨rfl, hx⟩ hy hn
      obtain ⟨d, hd, ax⟩ := ats_get r hx
      have ax2 := ax.same s2
      walk_at "ss"
      exact hy _ _ (by rw [hd]; rfl) (Same.refl _)
    intro D H1 hD s1 h1
    rw [hl, range_flt ds (fun d => some (V.bl (isW d))), fm_map] at h1
    walk_at "ss"
    refine g_all (bs := ds.map isW) (SqL.of (by rw [List.map_map]; exact h1)) ?_
    have eall : (ds.map isW).all id = ds.all isW := by rw [List.all_map]; rfl
    rw [eall]
    rcases ats_ints r with ⟨ns, e1, e2, e3⟩ | ⟨e1, e3⟩
    · rw [e3]
      have qn : ∀ H', Same H H' → Q (.bl (shutB bs c g ns)) H' := fun H' s => by
        have := q H' s
        unfold isShutD at this
        dsimp only at this
        rw [e1] at this
        exact this
      have hs1 : H1 lq = some (.lst (ns.map V.int)) := by rw [← e2]; exact s1 _ _ h
      have S1 := Same.seqT s1 S
      walk_at "ss"
      have dl := days_len c g
      refine lc_w (f := fun i => ((days c g)[i]?).bind fun d => if decide (d ∈ ns) = true then some (V.int d) else none) walk_range (by omega) (fun _ _ => trivial) ?_ ?_
      · rintro D2 j x H2 H3 N hD2 hj s2 ⟨rfl, rfl⟩ hy hn
        have hdj : (days c g)[j]? = some (c + (j : Int)) := days_get (by omega)
        have hs2 := s2 _ _ hs1
        walk_at "ss"
        refine g_inI (SqL.of hs2) ?_
        refine ⟨_, rfl, ?_⟩
        refine ite_d (fun z => ?_) fun z => ?_
        · walk_at "ss"
          exact hy _ _ (by rw [hdj, Option.bind_some, if_pos (decide_eq_true z)]) (Same.refl _)
        · exact hn _ (by rw [hdj, Option.bind_some, if_neg (by rw [decide_eq_false z]; decide)]) (Same.refl _)
      intro D2 H2 hD2 s2 h2
      rw [← dl, range_flt (days c g) (fun d => if decide (d ∈ ns) = true then some (V.int d) else none), fm_flt] at h2
      have hs2 := s2 _ _ hs1
      have S2 := Same.seqT s2 S1
      walk_at "ss"
      refine g_neD_ints (SqL.of hs2) (SqL.of h2) ?_
      walk_at "ss"
      have sm2 := s1.trans s2
      refine ite_nd (fun z => ?_) fun z => ?_
      · walk_at "ss"
        refine g_ninI (SqL.of hs2) ?_
        refine ⟨_, rfl, ?_⟩
        refine ite_nd (fun z2 => ?_) fun z2 => ?_
        · walk_at "ss"
          refine g_priced_parts cf cb (B.same sm2) fun pq ys H3 s3 f3 hq hT hyl => ?_
          have yl := tds_len hT
          rw [List.length_map] at yl
          have sm3 := sm2.trans s3
          walk_at "ss"
          refine lc_w (f := fun i => ((pricedL bs c g)[i]?).bind fun p => some (V.bl (decide (p.1 ∈ ns) && !decide (p.2.1 ∈ ns)))) (walk_list (K := K) (a := pq) (xs := ys)) (by omega) (fun H' s => SqL.of (s _ _ hq)) ?_ ?_
          · rintro D3 j x H4 H5 N hD3 hj s4 ⟨rfl, hx⟩ hy hn
            obtain ⟨pt, hpt, tx⟩ := tds_getD (tds_same s4 hT) hx
            obtain ⟨tq, rfl, htq⟩ := td_pt tx
            have hs4 : H5 lq = some (.lst (ns.map V.int)) := s4 _ _ (s3 _ _ hs2)
            walk_at "ss"
            refine g_inI (SqL.of hs4) ?_
            refine ⟨_, rfl, ?_⟩
            refine ite_b (fun z3 => ?_) fun z3 => ?_
            · walk_at "ss"
              refine g_ninI (SqL.of hs4) ?_
              exact hy _ _ (by rw [hpt, Option.bind_some, z3, Bool.true_and]) (Same.refl _)
            · exact hy _ _ (by rw [hpt, Option.bind_some, z3, Bool.false_and]) (Same.refl _)
          intro D3 H4 hD3 s4 h4
          rw [yl, range_flt (pricedL bs c g) (fun p => some (V.bl (decide (p.1 ∈ ns) && !decide (p.2.1 ∈ ns)))), fm_map] at h4
          walk_at "ss"
          refine g_any (bs := (pricedL bs c g).map fun p => decide (p.1 ∈ ns) && !decide (p.2.1 ∈ ns)) (SqL.of (by rw [List.map_map]; exact h4)) ?_
          rw [show ((pricedL bs c g).map fun p => decide (p.1 ∈ ns) && !decide (p.2.1 ∈ ns)).any id = (pricedL bs c g).any fun p => decide (p.1 ∈ ns) && !decide (p.2.1 ∈ ns) by rw [List.any_map]; rfl]
          walk_at "ss"
          have := qn _ (sm3.trans s4)
          unfold shutB at this
          rw [decide_eq_true z, decide_eq_true z2] at this
          exact this
        · walk_at "ss"
          have := qn _ sm2
          unfold shutB at this
          rw [decide_eq_true z, decide_eq_false z2] at this
          exact this
      · walk_at "ss"
        have := qn _ sm2
        unfold shutB at this
        rw [decide_eq_false z] at this
        exact this
    · rw [e3]
      walk_at "ss"
      have := q _ s1
      unfold isShutD at this
      dsimp only at this
      rw [e1] at this
      exact this
  | _ =>
    walk_at "ss"
    exact q0
def t_lets_by (K : PySem.W.Frag) : TS :=
  (tSeq (tIfS (tOr (tNot (tB (tCB (rIsi K) (tCons (tVar 2) (tCons (tC (.ty "tuple")) tNil))))) (tOr (tTest (tOp rEq (tCB (rLen K) (tCons (tVar 2) tNil)) (tC (.int 0)))) (tNot (tB (tCB (rIsi K) (tCons (tOp (rIxT K) (tVar 2) (tC (.int 0))) (tCons (tC (.ty "str")) tNil)))))))
  (tRet (tC (.bl false)))
  tNext)
  (tSeq (tIfS (tTest (tOp rEq (tOp (rIxT K) (tVar 2) (tC (.int 0))) (tC (.str "off"))))
  (tRet (tAndV (tOp rEq (tCB (rLen K) (tCons (tVar 2) tNil)) (tC (.int 2))) (tCall (sp_is_shut K) [] E0 (tCons (tVar 0) (tCons (tVar 1) (tCons (tOp (rIxT K) (tVar 2) (tC (.int 1))) tNil))))))
  tNext)
  (tSeq (tIfS (tOr (tTest (tOp rNe (tOp (rIxT K) (tVar 2) (tC (.int 0))) (tC (.str "had")))) (tOr (tTest (tOp rNe (tCB (rLen K) (tCons (tVar 2) tNil)) (tC (.int 4)))) (tOr (tNot (tB (tCall (sp_is_whole K) [] E0 (tCons (tOp (rIxT K) (tVar 2) (tC (.int 1))) tNil)))) (tNot (tB (tCall (sp_is_cut K) [] E0 (tCons (tVar 0) (tCons (tVar 1) (tCons (tOp (rIxT K) (tVar 2) (tC (.int 2))) tNil)))))))))
  (tRet (tC (.bl false)))
  tNext)
  (tSeq (tIfS (tTest (tOp rNe (tCB (rSum K) (tCons (tLc (iList K (tOp (rIxT K) (tVar 2) (tC (.int 2)))) (gName 3) tYes (tCall (sp_cost_of K) [] E0 (tCons (tVar 0) (tCons (tVar 3) tNil))) [3]) tNil)) (tOp (rIxT K) (tVar 2) (tC (.int 1)))))
  (tRet (tC (.bl false)))
  tNext)
  (tRet (tCall (sp_is_paper K) [] E0 (tCons (tVar 0) (tCons (tVar 1) (tCons (tOp (rIxT K) (tVar 2) (tC (.int 1))) (tCons (tOp (rIxT K) (tVar 2) (tC (.int 3))) tNil))))))))))
theorem pure_lets_by {K : PySem.W.Frag} {x y z : V} {H : Hp} {Q : VK} {E : XK} (h : sp_lets_by K [x, y, z] H Q E) : t_lets_by K { nx := fun _ H' => Q .non H', rt := Q } [some x, some y, some z, none] H := by
  obtain ⟨x, y, z, e, cf, cb, p, a, vs, bs, c, g, d, rfl, rfl, B, hz, w, q⟩ := h
  cases e
  unfold t_lets_by
  have q0 := q H (Same.refl _)
  cases hz with
  | tup n h r =>
    rename_i tq xs ds
    have hl := Ats.len r
    obtain ⟨w1, w2⟩ := w
    walk_at "ss"
    rw [int_eq]
    refine ite_d (fun z0 => ?_) fun z0 => ?_
    · walk_at "ss"
      have e0 : ds = [] := List.length_eq_zero_iff.mp (by omega)
      subst e0
      exact q0
    cases r with
    | nil => exact absurd rfl z0
    | @cons v vr d0 dr ax ar =>
      cases ax with
      | str zz =>
        have hl' : vr.length = dr.length := Ats.len ar
        have sub : ∀ i (x : V), vr[i]? = some x → ∃ d, dr[i]? = some d ∧ At H [] x d ∧ Wide d := fun i x hx => by
          obtain ⟨d, h1, h2⟩ := ats_get ar hx
          exact ⟨d, h1, h2, w2 d (List.mem_cons_of_mem _ (List.mem_of_getElem? h1))⟩
        walk_at "ss"
        by_cases zo : zz = "off"
        · subst zo
          refine ite_dt rfl ?_
          have q1 : ∀ H', Same H H' → Q (.bl (offD bs c g dr)) H' := q
          walk_at "ss"
          rw [int_eq]
          match vr, dr, ar with
          | [], [], _ =>
            refine ite_df (by show ¬ ((1 : Nat) : Int) = 2; decide) ?_
            exact q1 _ (Same.refl _)
          | [v1], [d1], .cons a1 .nil =>
            refine ite_dt (by rfl) ?_
            walk_at "ss"
            refine g_is_shut cf cb B a1 (w2 d1 (by simp)) fun H2 s2 => ?_
            exact q1 _ s2
          | v1 :: v2 :: vr, d1 :: d2 :: dr, ar =>
            refine ite_df (by simp; omega) ?_
            exact q1 _ (Same.refl _)
        refine ite_df (fun z => zo (V.str.inj z)) ?_
        walk_at "ss"
        have qf : ∀ {b : Bool} {H' : Hp}, Same H H' → (if zz = "had" then hadD bs c g dr else false) = b → Q (.bl b) H' := fun s hb => by
          have h1 : Q (.bl (if zz = "off" then offD bs c g dr else if zz = "had" then hadD bs c g dr else false)) _ := q _ s
          rw [if_neg zo, hb] at h1
          exact h1
        refine ite_nd (fun zh => ?_) fun zh => ?_
        · have zh := V.str.inj zh
          walk_at "ss"
          rw [int_eq]
          refine ite_nd (fun z4 => ?_) fun z4 => ?_
          · have l3 : vr.length = 3 := by
              have : (((V.str zz :: vr).length : Nat) : Int) = 4 := z4
              rw [List.length_cons] at this
              omega
            match vr, dr, ar, l3 with
            | [v1, v2, v3], [d1, d2, d3], .cons a1 (.cons a2 (.cons a3 .nil)), _ =>
              have wd2 : Wide d2 := w2 d2 (by simp)
              have wd3 : Wide d3 := w2 d3 (by simp)
              walk_at "ss"
              cases hW : isW d1 with
              | false =>
                refine ite_t rfl ?_
                walk_at "ss"
                exact qf (Same.refl _) (by rw [if_pos zh, hadD_int hW])
              | true =>
                obtain ⟨i, rfl⟩ : ∃ i, d1 = .int i := by
                  cases d1 <;> first | exact ⟨_, rfl⟩ | cases hW
                cases a1
                refine ite_f rfl ?_
                walk_at "ss"
                refine g_is_cut cf cb B a2 fun H2 s2 => ?_
                have h2 := s2 _ _ h
                have B2 := B.same s2
                walk_at "ss"
                cases hc : isCutD bs c g d2 with
                | false =>
                  walk_at "ss"
                  exact qf s2 (by rw [if_pos zh, hadD_cut hc])
                | true =>
                  have ex : ∃ (lq : Addr) (ys : List V) (es : List PyData), v2 = V.ref lq ∧ d2 = .list es ∧ H lq = some (.lst ys) ∧ Ats H [] ys es := by
                    cases a2 with
                    | lst n2 hq2 r2 => exact ⟨_, _, _, rfl, rfl, hq2, r2⟩
                    | _ => cases hc
                  obtain ⟨lq, ys, es, rfl, rfl, hq2, r2⟩ := ex
                  walk_at "ss"
                  obtain ⟨c1, c2⟩ := cutGo_pts (show cutGo bs c g c es = true from hc)
                  obtain ⟨L, hL⟩ : ∃ L, L = ptsD es := ⟨_, rfl⟩
                  rw [← hL] at c1 c2
                  have qL : ∀ {H'}, Same H H' → Q (.bl (decide ((L.map (ptCost bs)).sum = i) && isPaperD bs c g i d3)) H' := fun s => by
                    refine qf s ?_
                    rw [if_pos zh]
                    show (isCutD bs c g (.list es) && (decide (((ptsD es).map (ptCost bs)).sum = i) && isPaperD bs c g i d3)) = _
                    rw [hc, ← hL]
                    rfl
                  have hq3 := s2 _ _ hq2
                  have yl := Ats.len r2
                  have ll : es.length ≤ 1000 := wd2
                  have el : ys.length = L.length := by
                    have := congrArg List.length c1
                    rw [List.length_map] at this
                    omega
                  refine lc_w (f := fun j => (L[j]?).bind fun p => some (V.int (ptCost bs p))) (walk_list (K := K) (a := lq) (xs := ys)) (by omega) (fun H' s => SqL.of (s _ _ hq3)) ?_ ?_
                  · rintro D3 j x H4 H5 N hD3 hj s4 ⟨rfl, hx⟩ hy hn
                    obtain ⟨d, hd, ax⟩ := ats_get (Ats.mono (fun a o e _ => (s2.trans s4) a o e) (fun _ z => z) r2) hx
                    rw [c1, List.getElem?_map] at hd
                    obtain ⟨pt, hpt, rfl⟩ : ∃ pt, L[j]? = some pt ∧ d = ptD pt := by
                      cases e : L[j]? with
                      | none => rw [e] at hd; cases hd
                      | some y => rw [e] at hd; exact ⟨y, rfl, (Option.some.inj hd).symm⟩
                    obtain ⟨p1, p2⟩ := c2 pt (List.mem_of_getElem? hpt)
                    obtain ⟨tt, rfl, htt⟩ := at_pt ax
                    walk_at "ss"
                    refine g_cost_of cf cb (B2.same s4) htt p1 p2 fun H6 s6 => ?_
                    exact hy _ _ (by rw [hpt]; rfl) s6
                  intro D3 H4 hD3 s4 h4
                  rw [el, range_flt L (fun p => some (V.int (ptCost bs p))), fm_map] at h4
                  walk_at "ss"
                  refine g_sum (ns := L.map (ptCost bs)) (SqL.of (by rw [List.map_map]; exact h4)) ?_
                  have h3 := s4 _ _ h2
                  have sm := s2.trans s4
                  walk_at "ss"
                  rw [int_eq]
                  refine ite_nd (fun z5 => ?_) fun z5 => ?_
                  · walk_at "ss"
                    refine g_is_paper cf cb (B2.same s4) (a3.same sm) wd3 fun H6 s6 => ?_
                    have := qL (sm.trans s6)
                    rw [decide_eq_true z5, Bool.true_and] at this
                    exact this
                  · walk_at "ss"
                    have := qL sm
                    rw [decide_eq_false z5, Bool.false_and] at this
                    exact this
          · walk_at "ss"
            refine qf (Same.refl _) ?_
            rw [if_pos zh, hadD_len]
            intro e
            refine z4 ?_
            show (((V.str zz :: vr).length : Nat) : Int) = 4
            rw [List.length_cons, hl', e]
            rfl
        · walk_at "ss"
          exact qf (Same.refl _) (if_neg fun e => zh (by rw [e]))
      | _ =>
        walk_at "ss"
        exact q0
  | _ =>
    walk_at "ss"
    exact q0
/-! YBc: cuts of least cost; what best tells. -/
open PySem PySem.Spec PyProof.Rows L2
theorem off_some {bs : List (List RuleD)} {c g : Int} (ho : offB bs c g = false) : ∃ w, waysF bs c g g = some w ∧ coinsL bs c g = w.1 := by
  unfold offB at ho
  unfold coinsL costF
  cases h : waysF bs c g g with
  | none => rw [h] at ho; cases ho
  | some w => exact ⟨w, rfl, rfl⟩
/-- what is told as had is a cut that costs it -/
theorem cut_ok {bs : List (List RuleD)} {c g : Int} (h : c ≤ g) (ho : offB bs c g = false) : chain (PtOk bs c g) c g (cutL bs c g) ∧ ((cutL bs c g).map (ptCost bs)).sum = coinsL bs c g := by
  obtain ⟨w, h1, h2⟩ := off_some ho
  have := cutF_ok (ways_WI bs h) (g - c + 1).toNat g w (by omega) h1
  rw [h2]
  exact this
/-- the word of what is told -/
def bw (bs : List (List RuleD)) (c g : Int) : Str := if offB bs c g then "off" else "had"
def BestAt (H : Hp) (v : V) (bs : List (List RuleD)) (c g : Int) : Prop :=
  (offB bs c g = true ∧ ∃ p q, v = .ref p ∧ H p = some (.tup [.str "off", .ref q]) ∧ H q = some (.lst ((shutL bs c g).map V.int))) ∨
  (offB bs c g = false ∧ ∃ p q r ys, v = .ref p ∧ H p = some (.tup [.str "had", .int (coinsL bs c g), .ref q, .ref r]) ∧ H q = some (.lst ys) ∧ Tds H ys ((cutL bs c g).map ptD) ∧ H r = some (.lst ((paperL bs c g).map V.int)))
theorem BestAt.same {H H' : Hp} {v : V} {bs : List (List RuleD)} {c g : Int} (s : Same H H') (h : BestAt H v bs c g) : BestAt H' v bs c g := by
  rcases h with ⟨o, p, q, e, h1, h2⟩ | ⟨o, p, q, r, ys, e, h1, h2, h3, h4⟩
  · exact .inl ⟨o, p, q, e, s _ _ h1, s _ _ h2⟩
  · exact .inr ⟨o, p, q, r, ys, e, s _ _ h1, s _ _ h2, tds_same s h3, s _ _ h4⟩
theorem g_bestB {K : PySem.W.Frag} {p a : Addr} {vs : List V} {bs : List (List RuleD)} {c g : Int} {H : Hp} {Q : VK} {E : XK} (cf : CFR K) (cb : CFB K) (h : Bst K H p a vs bs c g) (q : ∀ v H', Same H H' → BestAt H' v bs c g → Q v H') : sp_best K ([.ref p, .ref a] ++ []) H Q E :=
  g_best cf cb h (fun ho p q' H' s _ _ h1 h2 => q _ H' s (.inl ⟨ho, p, q', rfl, h1, h2⟩)) (fun ho p q' r ys H' s _ _ _ _ h1 h2 h3 h4 => q _ H' s (.inr ⟨ho, p, q', r, ys, rfl, h1, h2, h3, h4⟩))
theorem g_b0 {K : PySem.W.Frag} {v : V} {bs : List (List RuleD)} {c g : Int} {H : Hp} {Q : VK} (h : BestAt H v bs c g) (q : Q (.str (bw bs c g)) H) : rIxT K v (.int 0) H Q := by
  unfold bw at q
  rcases h with ⟨o, p, q', rfl, h1, h2⟩ | ⟨o, p, q', r, ys, rfl, h1, h2, h3, h4⟩
  · rw [o] at q
    exact g_ixT (SqT.of h1) rfl q
  · rw [o] at q
    exact g_ixT (SqT.of h1) rfl q
theorem g_b1 {K : PySem.W.Frag} {v : V} {bs : List (List RuleD)} {c g : Int} {H : Hp} {Q : VK} (h : BestAt H v bs c g) (ho : offB bs c g = false) (q : Q (.int (coinsL bs c g)) H) : rIxT K v (.int 1) H Q := by
  rcases h with ⟨o, -⟩ | ⟨o, p, q', r, ys, rfl, h1, h2, h3, h4⟩
  · rw [ho] at o; cases o
  · exact g_ixT (SqT.of h1) rfl q
theorem bw_had (bs : List (List RuleD)) (c g : Int) : decide (V.str (bw bs c g) = V.str "had") = !offB bs c g := by
  unfold bw
  cases offB bs c g <;> rfl
/-! YBr: the best of stays held against one another. -/
open PySem PySem.Spec PyProof.Rows L2
theorem cut_small {bs : List (List RuleD)} {c g : Int} : ∀ {L : List Pt} {a b : Int}, chain (PtOk bs c g) a b L → (L.length : Int) ≤ b - a
  | [], a, b, h => by cases h; simp
  | p :: L, a, b, h => by
    have h1 := cut_small h.2.2
    have h2 := h.2.1.2.1
    have h3 := h.1
    rw [List.length_cons]
    push_cast
    omega
/-! YMk: the least: what is marked costs least. -/
open PySem PySem.Spec PyProof.Rows L2
def leP (a b : Pr) : Bool := decide (a.1 < b.1 ∨ (a.1 = b.1 ∧ a.2 ≤ b.2))
/-- a sum over 0 .. n - 1 -/
def sumR (g : Nat → Int) (n : Nat) : Int := ((List.range n).map g).sum
/-- the marked ones' part of a sum -/
def mkd (p : Nat → Int) (M : Nat → Bool) (i : Nat) : Int := if M i = true then p i else 0
def pr (ps : List Int) (i : Nat) : Int := ps.getD i 0
/-- what is free by a deal, what is paid -/
def markB (ps : List Int) : Option (Int × Int) → Nat → Bool
  | none => fun _ => false
  | some d => isMk ps d.1.toNat d.2.toNat
def freeS (ps : List Int) (d : Option (Int × Int)) : Int := sumR (mkd (pr ps) (markB ps d)) ps.length
def allS (ps : List Int) : Int := sumR (pr ps) ps.length
def paidS (ps : List Int) (d : Option (Int × Int)) : Int := allS ps - freeS ps d
/-! YMp: what a bill's sum is. -/
open PySem PySem.Spec PyProof.Rows L2
/-! YMq: a rule laid over, and the bill's sum. -/
open PySem PySem.Spec PyProof.Rows L2
/-! YOn: a book of one stay alone, put in among others: what best tells without it is let by with it just where the paper's numbers come to no more than it costs. -/
open PySem PySem.Spec PyProof.Rows L2
def oneR (b e x : Int) : List RuleD := [⟨.price, b, e - 1, .int 0⟩, ⟨.fee, b, b, .int x⟩, ⟨.least, b, b, .int (e - b)⟩, ⟨.come, b + 1, e, .bool false⟩]
/-- a book put in at a place -/
def insB (bs : List (List RuleD)) (n : Nat) (r : List RuleD) : List (List RuleD) := bs.take n ++ [r] ++ bs.drop n
def mvN (n : Nat) (k : Int) : Int := if (n : Int) ≤ k then k + 1 else k
def mvP (n : Nat) (p : Pt) : Pt := (p.1, p.2.1, mvN n p.2.2)
theorem part_ok {bs : List (List RuleD)} {c g : Int} (h0 : 0 ≤ c) (hg : g ≤ 1000000) (h14 : g ≤ c + 14) {p : Pt} (h : PtOk bs c g p) : isPartD bs c g (ptD p) = true := by
  obtain ⟨p1, p2, p3, k, rs, p4, p5, p6⟩ := h
  have hk : k < bs.length := (List.getElem?_eq_some_iff.mp p5).1
  show (isStay (.tuple [.int p.1, .int p.2.1]) && partB bs c g p.1 p.2.1 p.2.2) = true
  rw [Bool.and_eq_true]
  constructor
  · show ((decide (0 ≤ p.1) && decide (p.1 ≤ 1000000)) && ((decide (0 ≤ p.2.1) && decide (p.2.1 ≤ 1000000)) && (decide (1 ≤ p.2.1 - p.1) && decide (p.2.1 - p.1 ≤ 14)))) = true
    simp only [Bool.and_eq_true, decide_eq_true_eq]
    omega
  · unfold partB hadAt
    rw [p4, Int.toNat_natCast, p5]
    simp only [Bool.and_eq_true, decide_eq_true_eq]
    exact ⟨p1, p3, by omega, by omega, p6⟩
theorem chain_cutGo {bs : List (List RuleD)} {c g : Int} (h0 : 0 ≤ c) (hg : g ≤ 1000000) (h14 : g ≤ c + 14) : ∀ {L : List Pt} {a : Int}, chain (PtOk bs c g) a g L → cutGo bs c g a (L.map ptD) = true
  | [], a, h => decide_eq_true h
  | p :: L, a, h => by
    have h1 := part_ok h0 hg h14 h.2.1
    show (isPartD bs c g (ptD p) && (decide (p.1 = a) && cutGo bs c g p.2.1 (L.map ptD))) = true
    rw [h1, decide_eq_true h.1, chain_cutGo h0 hg h14 h.2.2]
    rfl
theorem pts_map (L : List Pt) : ptsD (L.map ptD) = L := by
  induction L with
  | nil => rfl
  | cons p L ih =>
    show (p.1, p.2.1, p.2.2) :: ptsD (L.map ptD) = p :: L
    rw [ih]
theorem ints_map (ns : List Int) : intsD (ns.map PyData.int) = some ns := by
  induction ns with
  | nil => rfl
  | cons n ns ih =>
    show (intsD (ns.map PyData.int)).map _ = _
    rw [ih]
    rfl
def sumS (ns : List Int) (c b e : Int) : Int := ((ns.take (e - c).toNat).drop (b - c).toNat).sum
theorem isPaper_ints {bs : List (List RuleD)} {c g x : Int} {ns : List Int} : isPaperD bs c g x (.list (ns.map .int)) = paperB bs c g x ns := by
  unfold isPaperD
  dsimp only
  rw [ints_map]
theorem isShut_ints {bs : List (List RuleD)} {c g : Int} {ns : List Int} : isShutD bs c g (.list (ns.map .int)) = shutB bs c g ns := by
  unfold isShutD
  dsimp only
  rw [ints_map]
theorem letsD_off {bs : List (List RuleD)} {c g : Int} {r : List PyData} : letsD bs c g (.tuple (.str "off" :: r)) = offD bs c g r := by
  show (if ("off" : Str) = "off" then offD bs c g r else if ("off" : Str) = "had" then hadD bs c g r else false) = _
  rw [if_pos rfl]
theorem letsD_had {bs : List (List RuleD)} {c g : Int} {r : List PyData} : letsD bs c g (.tuple (.str "had" :: r)) = hadD bs c g r := by
  show (if ("had" : Str) = "off" then offD bs c g r else if ("had" : Str) = "had" then hadD bs c g r else false) = _
  rw [if_neg (by decide +kernel), if_pos rfl]
/-! YSo: what the looker lets by is so: no cut costs less; where days are shut there is no cut. And best's own is let by. -/
open PySem PySem.Spec PyProof.Rows L2
/-- what the numbers come to up to a day -/
def preS (c : Int) (ns : List Int) (d : Int) : Int := (ns.take (d - c).toNat).sum
theorem own_off {bs : List (List RuleD)} {c g : Int} (hc : c < g) (ho : offB bs c g = true) : letsD bs c g (.tuple [.str "off", .list ((shutL bs c g).map .int)]) = true := by
  rw [letsD_off]
  show isShutD bs c g (.list ((shutL bs c g).map .int)) = true
  rw [isShut_ints]
  unfold shutB
  have e1 : shutL bs c g = (days c g).filter fun d => decide (d ∈ shutL bs c g) := by
    refine sorted_ext (shut_up bs c g) ?_ fun d => ?_
    · refine List.Pairwise.filter _ ?_
      unfold days
      rw [List.pairwise_map]
      exact List.pairwise_lt_range.imp fun h => by omega
    · rw [List.mem_filter, mem_days, decide_eq_true_eq]
      exact ⟨fun h => ⟨shut_rng (by omega) ho h, h⟩, fun h => h.2⟩
  rw [decide_eq_true e1, decide_eq_true (shut_start (show c ≤ g by omega)), Bool.true_and, Bool.true_and]
  rw [Bool.not_eq_true']
  refine List.any_eq_false.mpr fun p hp => ?_
  obtain ⟨p1, p2, p3, rs, hrs, p4⟩ := mem_priced.mp hp
  obtain ⟨k, hk⟩ := List.getElem?_of_mem hrs
  obtain ⟨hh, sm⟩ := coinO_had.mp p4
  intro y
  simp only [Bool.and_eq_true, decide_eq_true_eq, Bool.not_eq_true', decide_eq_false_iff_not] at y
  exact y.2 (shut_closed (by omega) y.1 (shut_rng (by omega) ho y.1).2 hk p2 p3 hh)
/-! YTg: what each day costs to the day of going; papers and cuts by it. -/
open PySem PySem.Spec PyProof.Rows L2
/-- the parts gone through ahead of a day of end and a book -/
def PrE (e0 : Int) (k0 : Nat) (e : Int) (k : Nat) : Prop := e < e0 ∨ (e = e0 ∧ k < k0)
/-- what is kept of a day while its parts are gone through -/
def RB (bs : List (List RuleD)) (d g e0 : Int) (k0 : Nat) (o : Option We) : Prop :=
  (∀ (e : Int) (k : Nat) (rs : List RuleD), d < e → e ≤ g → PrE e0 k0 e k → bs[k]? = some rs → offB bs e g = false → hadB rs d e = true → ∃ w, o = some w ∧ w.1 ≤ sumD rs d e + coinsL bs e g) ∧
  (∀ w, o = some w → ∃ (e : Int) (k : Nat) (rs : List RuleD), w = (sumD rs d e + coinsL bs e g, some (d, e, (k : Int))) ∧ d < e ∧ e ≤ g ∧ bs[k]? = some rs ∧ offB bs e g = false ∧ hadB rs d e = true)
/-- what a day ends with -/
def GoV (bs : List (List RuleD)) (g i : Int) (o : Option We) : Prop :=
  (offB bs i g = true ∧ o = none) ∨ (offB bs i g = false ∧ ∃ (e : Int) (k : Nat) (rs : List RuleD), o = some (coinsL bs i g, some (i, e, (k : Int))) ∧ i < e ∧ e ≤ g ∧ bs[k]? = some rs ∧ offB bs e g = false ∧ hadB rs i e = true ∧ sumD rs i e + coinsL bs e g = coinsL bs i g)
/-- what holds of the days from n on -/
structure GI (bs : List (List RuleD)) (g n : Int) (f : Wf) : Prop where
  fin : f g = some (0, none)
  dom : ∀ i w, f i = some w → n ≤ i ∧ i ≤ g
  val : ∀ i, n ≤ i → i < g → GoV bs g i (f i)
/-! papers by it -/
def goH (bs : List (List RuleD)) (g m d : Int) : Int := if offB bs d g then m else coinsL bs d g
def goP (bs : List (List RuleD)) (c g m : Int) : List Int := (days c g).map fun d => goH bs g m d - goH bs g m (d + 1)
def GoM (bs : List (List RuleD)) (c g m : Int) : Prop := ∀ d, c ≤ d → d ≤ g → offB bs d g = false → coinsL bs d g ≤ m
theorem lets_make {bs : List (List RuleD)} {c g x : Int} {L : List Pt} {ns : List Int} (h0 : 0 ≤ c) (hg : g ≤ 1000000) (h14 : g ≤ c + 14) (hL : chain (PtOk bs c g) c g L) (hx : (L.map (ptCost bs)).sum = x) (hp : paperB bs c g x ns = true) : letsD bs c g (.tuple [.str "had", .int x, .list (L.map ptD), .list (ns.map .int)]) = true := by
  rw [letsD_had]
  show (cutGo bs c g c (L.map ptD) && (decide (((ptsD (L.map ptD)).map (ptCost bs)).sum = x) && isPaperD bs c g x (.list (ns.map .int)))) = true
  rw [chain_cutGo h0 hg h14 hL, pts_map, hx, decide_eq_true rfl, Bool.true_and, Bool.true_and, isPaper_ints]
  exact hp
theorem own_paper {bs : List (List RuleD)} (gd : GoodB bs) {c g : Int} (hc : c < g) (ho : offB bs c g = false) : paperB bs c g (coinsL bs c g) (paperL bs c g) = true := by
  unfold paperB
  rw [decide_eq_true (show ((paperL bs c g).length : Int) = g - c by have : (paperL bs c g).length = (g - c).toNat := paper_len _ _ _; omega), paper_all hc ho, decide_eq_true rfl, Bool.true_and, Bool.true_and]
  refine List.all_eq_true.mpr fun p hp => ?_
  obtain ⟨p1, p2, p3, rs, hrs, p4⟩ := mem_priced.mp hp
  obtain ⟨k, hk⟩ := List.getElem?_of_mem hrs
  obtain ⟨hh, sm⟩ := coinO_had.mp p4
  have := paper_had gd hc ho hk p1 p2 p3 hh
  rw [sm] at this
  rw [decide_eq_false this]
  rfl
def goS (bs : List (List RuleD)) (c g : Int) : List Int := (days c g).filter fun d => offB bs d g
/-! YMo: rows of books by one of which all can be had that can be had by the other, and costs no more. -/
open PySem PySem.Spec PyProof.Rows L2
/-- whatever can be had within c to g by a book of A can be had by one of B, and costs no more -/
def NoWorse (A B : List (List RuleD)) (c g : Int) : Prop := ∀ rs ∈ A, ∀ b e, c ≤ b → b < e → e ≤ g → hadB rs b e = true → ∃ ss ∈ B, hadB ss b e = true ∧ sumD ss b e ≤ sumD rs b e
/-! rules laid over, for one day -/
/-- what a rule makes no dearer and bars not -/
def Kind (rs : List RuleD) (r : RuleD) : Prop := ∀ b e, b < e → e ≤ b + 14 → hadB rs b e = true → hadB (rs ++ [r]) b e = true ∧ sumD (rs ++ [r]) b e ≤ sumD rs b e
/-- what a rule makes no cheaper and lets not -/
def Hard (rs : List RuleD) (r : RuleD) : Prop := ∀ b e, b < e → e ≤ b + 14 → hadB (rs ++ [r]) b e = true → hadB rs b e = true ∧ sumD rs b e ≤ sumD (rs ++ [r]) b e
/-! YAb: rows of books alike book by book: the same best, and what is told by the one is let by by the other. -/
open PySem PySem.Spec PyProof.Rows L2
def AlkR (rs ss : List RuleD) (c g : Int) : Prop := ∀ b e, c ≤ b → b < e → e ≤ g → coinO rs b e = coinO ss b e
structure AlkL (A B : List (List RuleD)) (c g : Int) : Prop where
  len : A.length = B.length
  at_ : ∀ (k : Nat) (r s : List RuleD), A[k]? = some r → B[k]? = some s → AlkR r s c g
theorem AlkL.symm {A B : List (List RuleD)} {c g : Int} (h : AlkL A B c g) : AlkL B A c g := ⟨h.len.symm, fun k r s h1 h2 b e x y z => (h.at_ k s r h2 h1 b e x y z).symm⟩
theorem AlkL.other {A B : List (List RuleD)} {c g : Int} (h : AlkL A B c g) {k : Nat} {r : List RuleD} (hk : A[k]? = some r) : ∃ s, B[k]? = some s ∧ AlkR r s c g := by
  have := (List.getElem?_eq_some_iff.mp hk).1
  have hb : B[k]? = some (B[k]'(by rw [← h.len]; exact this)) := List.getElem?_eq_getElem _
  exact ⟨_, hb, h.at_ k _ _ hk hb⟩
theorem alk_had {rs ss : List RuleD} {c g : Int} (h : AlkR rs ss c g) {b e : Int} (h1 : c ≤ b) (h2 : b < e) (h3 : e ≤ g) (hh : hadB rs b e = true) : hadB ss b e = true ∧ sumD ss b e = sumD rs b e := by
  have := h b e h1 h2 h3
  have e1 : coinO rs b e = some (sumD rs b e) := coinO_had.mpr ⟨hh, rfl⟩
  rw [e1] at this
  exact coinO_had.mp this.symm
theorem alk_pt {A B : List (List RuleD)} {c g : Int} (h : AlkL A B c g) {p : Pt} (q : PtOk A c g p) : PtOk B c g p ∧ ptCost B p = ptCost A p := by
  obtain ⟨h1, h2, h3, k, rs, h4, h5, h6⟩ := q
  obtain ⟨ss, hb, al⟩ := h.other h5
  obtain ⟨g1, g2⟩ := alk_had al h1 h2 h3 h6
  refine ⟨⟨h1, h2, h3, k, ss, h4, hb, g1⟩, ?_⟩
  unfold ptCost
  rw [h4, Int.toNat_natCast, hb, h5]
  exact g2
theorem alk_chain {A B : List (List RuleD)} {c g : Int} (h : AlkL A B c g) : ∀ {L : List Pt} {a b : Int}, chain (PtOk A c g) a b L → chain (PtOk B c g) a b L ∧ (L.map (ptCost B)).sum = (L.map (ptCost A)).sum
  | [], a, b, q => ⟨q, rfl⟩
  | p :: L, a, b, q => by
    obtain ⟨i1, i2⟩ := alk_chain h q.2.2
    obtain ⟨j1, j2⟩ := alk_pt h q.2.1
    exact ⟨⟨q.1, j1, i1⟩, by rw [List.map_cons, List.sum_cons, List.map_cons, List.sum_cons, i2, j2]⟩
theorem alk_priced {A B : List (List RuleD)} {c g : Int} (h : AlkL A B c g) {p : Pt} (hp : p ∈ pricedL B c g) : p ∈ pricedL A c g := by
  obtain ⟨p1, p2, p3, ss, hss, p4⟩ := mem_priced.mp hp
  obtain ⟨k, hk⟩ := List.getElem?_of_mem hss
  obtain ⟨rs, ha, al⟩ := h.symm.other hk
  exact mem_priced.mpr ⟨p1, p2, p3, rs, List.mem_of_getElem? ha, by rw [← al _ _ p1 p2 p3]; exact p4⟩
def bstD (bs : List (List RuleD)) (c g : Int) : PyData := if offB bs c g then .tuple [.str "off", .list ((shutL bs c g).map .int)] else .tuple [.str "had", .int (coinsL bs c g), .list ((cutL bs c g).map ptD), .list ((paperL bs c g).map .int)]
theorem alk_lets {A B : List (List RuleD)} {c g : Int} (ga : GoodB A) (h : AlkL A B c g) (h0 : 0 ≤ c) (hc : c < g) (hg : g ≤ 1000000) (h14 : g ≤ c + 14) : letsD B c g (bstD A c g) = true := by
  unfold bstD
  cases o : offB A c g with
  | false =>
    rw [if_neg (by decide)]
    obtain ⟨a1, a2⟩ := cut_ok (show c ≤ g by omega) o
    obtain ⟨b1, b2⟩ := alk_chain h a1
    refine lets_make h0 hg h14 b1 (by rw [b2, a2]) ?_
    have pa := own_paper ga hc o
    unfold paperB at pa ⊢
    simp only [Bool.and_eq_true] at pa ⊢
    exact ⟨pa.1, pa.2.1, List.all_eq_true.mpr fun p hp => List.all_eq_true.mp pa.2.2 p (alk_priced h hp)⟩
  | true =>
    rw [if_pos rfl]
    have e0 := own_off hc o
    rw [letsD_off] at e0 ⊢
    have e0' : isShutD A c g (.list ((shutL A c g).map .int)) = true := e0
    show isShutD B c g (.list ((shutL A c g).map .int)) = true
    rw [isShut_ints] at e0' ⊢
    unfold shutB at e0' ⊢
    simp only [Bool.and_eq_true, Bool.not_eq_true'] at e0' ⊢
    exact ⟨e0'.1, e0'.2.1, List.any_eq_false.mpr fun p hp => List.any_eq_false.mp e0'.2.2 p (alk_priced h hp)⟩
/-! YFg: figures, words and rules as texts: plain law. -/
open PySem PySem.Spec PyProof.Rows L2 TL
/-- a number's figures -/
def figS (n : Nat) : Str := Str.ofString (toString ((n : Nat) : Int))
theorem tl_fig (n : Nat) : tl (figS n) = numL n := tl_num n
theorem fig_inj {m n : Nat} (h : figS m = figS n) : m = n := numL_inj (by rw [← tl_fig, ← tl_fig, h])
theorem fig_free {n s : Nat} (h : s < 48 ∨ 57 < s) : s ∉ tl (figS n) := by rw [tl_fig]; exact numL_free h
theorem fig_len {n k : Nat} (hk : 0 < k) (h : n < 10 ^ k) : (figS n).length ≤ k := by rw [len_tl, tl_fig]; exact numL_len hk h
/-- a word that writes a number as it is written -/
def digB (c : Nat) : Bool := decide (48 ≤ c) && decide (c ≤ 57)
def canB (l : List Nat) : Bool := l.all digB && (!l.isEmpty && (!decide (l.head? = some 48) || decide (l = [48])))
theorem all_dig {l : List Nat} : l.all digB = true ↔ NumText.AllDigits l := by
  rw [List.all_eq_true]
  constructor
  · intro h c hc
    have := h c hc
    unfold digB at this
    rw [Bool.and_eq_true, decide_eq_true_eq, decide_eq_true_eq] at this
    exact this
  · intro h c hc
    have := h c hc
    unfold digB
    rw [Bool.and_eq_true, decide_eq_true_eq, decide_eq_true_eq]
    exact this
theorem numL_head (n : Nat) : (numL n).head? = some 48 → n = 0 := by
  induction n using Nat.strongRecOn with
  | _ n ih =>
    intro h
    by_cases z : n < 10
    · rw [numL_lt z] at h
      have : 48 + n = 48 := Option.some.inj h
      omega
    · rw [numL_step (by omega)] at h
      have ne := numL_ne (n / 10)
      have hh : (numL (n / 10)).head? = some 48 := by
        cases e : numL (n / 10) with
        | nil => exact absurd e ne
        | cons a l => rw [e] at h; exact h
      have := ih (n / 10) (by omega) hh
      omega
theorem can_num (n : Nat) : canB (numL n) = true := by
  unfold canB
  rw [Bool.and_eq_true, Bool.and_eq_true]
  refine ⟨all_dig.mpr (numL_digits n), ?_, ?_⟩
  · have := numL_ne n
    cases h : numL n with
    | nil => exact absurd h this
    | cons a l => rfl
  · by_cases h : (numL n).head? = some 48
    · have := numL_head n h
      subst this
      have : numL 0 = [48] := numL_lt (by decide)
      rw [this]
      rfl
    · rw [decide_eq_false h]; rfl
theorem can_val {l : List Nat} (h : canB l = true) : numL (NumText.digitsVal l) = l := by
  unfold canB at h
  rw [Bool.and_eq_true, Bool.and_eq_true] at h
  obtain ⟨hd, hn, hz⟩ := h
  have ad := all_dig.mp hd
  have back : (l.map Char.ofNat).map Char.toNat = l := by
    rw [List.map_map]
    have : ∀ c ∈ l, (Char.toNat ∘ Char.ofNat) c = c := fun c hc => by
      have r := ad c hc
      show (Char.ofNat c).toNat = c
      have : ∀ c : Nat, c < 58 → (Char.ofNat c).toNat = c := by decide
      exact this c (by omega)
    rw [List.map_congr_left this, List.map_id']
  cases l with
  | nil => cases hn
  | cons c r =>
    have e : Nat.toDigits 10 (NumText.digitsVal (c :: r)) = (c :: r).map Char.ofNat := by
      refine NumText.toDigits_digitsVal r.length (c :: r) rfl ad ?_
      by_cases z : c = 48
      · subst z
        left
        have : (48 :: r) = [48] := by simpa using hz
        cases this
        rfl
      · right
        have := ad c List.mem_cons_self
        exact ⟨c, r, rfl, by omega⟩
    unfold numL
    rw [e, back]
/-- the number that a word writes -/
def numO (x : Str) : Option Nat := if canB (tl x) = true then some (NumText.digitsVal (tl x)) else none
theorem numO_iff {x : Str} {n : Nat} : numO x = some n ↔ figS n = x := by
  unfold numO
  constructor
  · intro h
    split at h
    · rename_i c
      cases h
      refine ext_tl ?_
      rw [tl_fig, can_val c]
    · cases h
  · rintro rfl
    rw [tl_fig, if_pos (can_num n), numL_val]
theorem numO_fig (n : Nat) : numO (figS n) = some n := numO_iff.mpr rfl
theorem numO_int {x : Str} {n : Nat} (h : numO x = some n) (l : x.length ≤ 640) : intText? x = some (n : Int) := by
  unfold numO at h
  split at h
  · rename_i c
    cases h
    unfold canB at c
    rw [Bool.and_eq_true, Bool.and_eq_true] at c
    obtain ⟨hd, hn, -⟩ := c
    exact intText_digits (all_dig.mp hd) (by intro e; rw [show tl x = [] from e] at hn; cases hn) (by omega)
  · cases h
/-! ### split and join by a sign -/
theorem spl1_cons {s c : Nat} {acc r : List Nat} : spl [s] 0 acc (c :: r) = if c = s then acc :: spl [s] 0 [] r else spl [s] 0 (acc ++ [c]) r := by
  by_cases z : c = s
  · rw [if_pos z, spl_hit (by subst z; simp [pre])]
    rfl
  · rw [if_neg z, spl_miss (pre_of_head [] r z)]
theorem spl1_parts {s : Nat} : ∀ {l acc : List Nat}, s ∉ acc → spl [s] 0 acc l ≠ [] ∧ (∀ p ∈ spl [s] 0 acc l, s ∉ p) ∧ joinL [s] (spl [s] 0 acc l) = acc ++ l
  | [], acc, h => by
    rw [spl_nil]
    refine ⟨by simp, fun p hp => by rw [List.mem_singleton.mp hp]; exact h, ?_⟩
    show acc = acc ++ []
    simp
  | c :: r, acc, h => by
    rw [spl1_cons]
    by_cases z : c = s
    · rw [if_pos z]
      obtain ⟨h1, h2, h3⟩ := spl1_parts (s := s) (l := r) (acc := []) (by simp)
      refine ⟨by simp, fun p hp => ?_, ?_⟩
      · rcases List.mem_cons.mp hp with rfl | hp
        · exact h
        · exact h2 p hp
      · cases e : spl [s] 0 [] r with
        | nil => exact absurd e h1
        | cons a q =>
          rw [e] at h3
          show acc ++ ([s] ++ joinL [s] (a :: q)) = acc ++ c :: r
          rw [h3, z]
          rfl
    · rw [if_neg z]
      obtain ⟨h1, h2, h3⟩ := spl1_parts (s := s) (l := r) (acc := acc ++ [c]) (by simp [h]; exact fun e => z e.symm)
      exact ⟨h1, h2, by rw [h3]; simp⟩
theorem spl1_len {s : Nat} : ∀ (l acc : List Nat), (spl [s] 0 acc l).length ≤ l.length + 1
  | [], acc => by rw [spl_nil]; simp
  | c :: r, acc => by
    rw [spl1_cons]
    have h1 := spl1_len (s := s) r []
    have h2 := spl1_len (s := s) r (acc ++ [c])
    split
    · simp; omega
    · simp; omega
theorem spl1_each {s : Nat} : ∀ {l acc p : List Nat}, p ∈ spl [s] 0 acc l → p.length ≤ acc.length + l.length
  | [], acc, p, h => by
    rw [spl_nil] at h
    rw [List.mem_singleton.mp h]
    simp
  | c :: r, acc, p, h => by
    rw [spl1_cons] at h
    split at h
    · rcases List.mem_cons.mp h with rfl | h
      · simp
      · have := spl1_each h
        simp at this ⊢
        omega
    · have := spl1_each h
      simp at this ⊢
      omega
/-- the words of a text, cut at a sign -/
def cutS1 (s : Nat) (x : Str) : List Str := Txt.split x ⟨#[s]⟩
theorem tl_one (s : Nat) : tl (⟨#[s]⟩ : Str) = [s] := rfl
theorem cut_spl {s : Nat} (hs : s < 256) (x : Str) : (cutS1 s x).map tl = spl [s] 0 [] (tl x) := by
  unfold cutS1
  rw [split_spl x ⟨#[s]⟩ (by simp [tl_one]) (kind_ok (by simp [hs]))]
theorem cut_len {s : Nat} (hs : s < 256) (x : Str) : (cutS1 s x).length ≤ x.length + 1 := by
  have := congrArg List.length (cut_spl hs x)
  rw [List.length_map] at this
  rw [this, len_tl]
  exact spl1_len _ _
theorem cut_each {s : Nat} (hs : s < 256) {x p : Str} (h : p ∈ cutS1 s x) : p.length ≤ x.length := by
  have : tl p ∈ spl [s] 0 [] (tl x) := by
    rw [← cut_spl hs x]
    exact List.mem_map_of_mem h
  have := spl1_each this
  rw [len_tl, len_tl]
  simpa using this
theorem join_cut {s : Nat} (hs : s < 256) (x : Str) : Txt.join ⟨#[s]⟩ (cutS1 s x) = x := by
  refine ext_tl ?_
  rw [join_eq, tl_join, cut_spl hs, tl_one, (spl1_parts (s := s) (l := tl x) (acc := []) (by simp)).2.2]
  rfl
theorem cut_join {s : Nat} (hs : s < 256) {ps : List Str} (hne : ps ≠ []) (hp : ∀ p ∈ ps, s ∉ tl p) : cutS1 s (Txt.join ⟨#[s]⟩ ps) = ps :=
  split_join (s := s) (S := []) rfl (by simp [hs]) hne hp
/-! ### a rule's words -/
def worthW : PyData → List Str
  | .none => ["none"]
  | .bool b => [if b = true then "yes" else "no"]
  | .int i => [figS i.toNat]
  | .tuple [.int m, .int f] => [figS m.toNat, figS f.toNat]
  | _ => []
def ruleW (r : RuleD) : List Str := r.w.word :: figS r.f.toNat :: figS r.l.toNat :: worthW r.d
def ruleS (r : RuleD) : Str := Txt.join " " (ruleW r)
theorem sp_one : (" " : Str) = ⟨#[32]⟩ := by decide
theorem wd_free (w : Wd) : 32 ∉ tl w.word := by cases w <;> decide
theorem fits_kind {w : Wd} {d : PyData} (h : fitsD w d = true) : (d = .none ∧ (w = .price ∨ w = .deal)) ∨ (∃ b, d = .bool b ∧ (w = .come ∨ w = .go)) ∨ (∃ i, d = .int i ∧ 0 ≤ i ∧ i ≤ 1000000000000 ∧ (w = .price ∨ w = .least ∨ w = .most ∨ w = .fee)) ∨ ∃ m f, d = .tuple [.int m, .int f] ∧ 1 ≤ m ∧ m ≤ 14 ∧ 1 ≤ f ∧ f < m ∧ w = .deal := by
  have coin : ∀ {d : PyData}, isCoins d = true → ∃ i, d = .int i ∧ 0 ≤ i ∧ i ≤ 1000000000000 := fun {d} h => by
    cases d with
    | int i =>
      rw [show isCoins (.int i) = (decide (0 ≤ i) && decide (i ≤ 1000000000000)) from rfl, Bool.and_eq_true, decide_eq_true_eq, decide_eq_true_eq] at h
      exact ⟨i, rfl, h⟩
    | _ => cases h
  have night : ∀ {d : PyData}, isNights d = true → ∃ i, d = .int i ∧ 1 ≤ i ∧ i ≤ 14 := fun {d} h => by
    cases d with
    | int i =>
      rw [show isNights (.int i) = (decide (1 ≤ i) && decide (i ≤ 14)) from rfl, Bool.and_eq_true, decide_eq_true_eq, decide_eq_true_eq] at h
      exact ⟨i, rfl, h⟩
    | _ => cases h
  have boo : ∀ {d : PyData}, isBool d = true → ∃ b, d = .bool b := fun {d} h => by
    cases d with
    | bool b => exact ⟨b, rfl⟩
    | _ => cases h
  cases w with
  | price =>
    rcases Bool.or_eq_true_iff.mp (show (isNone d || isCoins d) = true from h) with g | g
    · cases d <;> first | exact .inl ⟨rfl, .inl rfl⟩ | cases g
    · obtain ⟨i, rfl, a, b⟩ := coin g
      exact .inr (.inr (.inl ⟨i, rfl, a, b, .inl rfl⟩))
  | come => obtain ⟨b, rfl⟩ := boo h; exact .inr (.inl ⟨b, rfl, .inl rfl⟩)
  | go => obtain ⟨b, rfl⟩ := boo h; exact .inr (.inl ⟨b, rfl, .inr rfl⟩)
  | least => obtain ⟨i, rfl, a, b⟩ := night h; exact .inr (.inr (.inl ⟨i, rfl, by omega, by omega, .inr (.inl rfl)⟩))
  | most => obtain ⟨i, rfl, a, b⟩ := night h; exact .inr (.inr (.inl ⟨i, rfl, by omega, by omega, .inr (.inr (.inl rfl))⟩))
  | fee => obtain ⟨i, rfl, a, b⟩ := coin h; exact .inr (.inr (.inl ⟨i, rfl, a, b, .inr (.inr (.inr rfl))⟩))
  | deal =>
    replace h : isDeal d = true := h
    unfold isDeal at h
    split at h
    · exact .inl ⟨rfl, .inr rfl⟩
    · rename_i a f
      rw [Bool.and_eq_true] at h
      obtain ⟨m, rfl, m0, m1⟩ := night h.1
      have h2 := h.2
      simp only [Bool.and_eq_true, decide_eq_true_eq] at h2
      exact .inr (.inr (.inr ⟨m, f, rfl, m0, m1, h2.1, h2.2, rfl⟩))
    · cases h
theorem worth_free {w : Wd} {d : PyData} (h : fitsD w d = true) {p : Str} (hp : p ∈ worthW d) : 32 ∉ tl p := by
  rcases fits_kind h with ⟨rfl, -⟩ | ⟨b, rfl, -⟩ | ⟨i, rfl, -⟩ | ⟨m, f, rfl, -⟩
  · rw [List.mem_singleton.mp hp]; decide
  · rw [List.mem_singleton.mp hp]; cases b <;> decide
  · rw [List.mem_singleton.mp hp]; exact fig_free (.inl (by decide))
  · simp only [worthW, List.mem_cons, List.not_mem_nil, or_false] at hp
    rcases hp with rfl | rfl <;> exact fig_free (.inl (by decide))
theorem worth_len {w : Wd} {d : PyData} (h : fitsD w d = true) : (worthW d).length = 1 ∨ (worthW d).length = 2 := by
  rcases fits_kind h with ⟨rfl, -⟩ | ⟨b, rfl, -⟩ | ⟨i, rfl, -⟩ | ⟨m, f, rfl, -⟩ <;> simp [worthW]
theorem ruleW_free {r : RuleD} (g : r.good) {p : Str} (hp : p ∈ ruleW r) : 32 ∉ tl p := by
  unfold ruleW at hp
  simp only [List.mem_cons] at hp
  rcases hp with rfl | rfl | rfl | hp
  · exact wd_free _
  · exact fig_free (.inl (by decide))
  · exact fig_free (.inl (by decide))
  · exact worth_free g.2.2.2 hp
/-- the words of a rule's text -/
theorem words_rule {r : RuleD} (g : r.good) : cutS1 32 (ruleS r) = ruleW r := by
  unfold ruleS
  rw [sp_one]
  exact cut_join (by decide) (by simp [ruleW]) fun p hp => ruleW_free g hp
theorem fig_none (n : Nat) : figS n ≠ "none" := fun e => by
  have h := tl_fig n
  rw [e] at h
  have := numL_digits n 110 (by rw [← h]; decide)
  omega
theorem worthW_inj {w : Wd} {d d' : PyData} (h : fitsD w d = true) (h' : fitsD w d' = true) (e : worthW d = worthW d') : d = d' := by
  rcases fits_kind h with ⟨rfl, hw⟩ | ⟨b, rfl, hw⟩ | ⟨i, rfl, i0, i1, hw⟩ | ⟨m, f, rfl, m0, m1, f0, f1, hw⟩ <;> rcases fits_kind h' with ⟨rfl, hw'⟩ | ⟨b', rfl, hw'⟩ | ⟨i', rfl, i0', i1', hw'⟩ | ⟨m', f', rfl, m0', m1', f0', f1', hw'⟩
  · rfl
  · rcases hw with rfl | rfl <;> rcases hw' with z | z <;> cases z
  · exact absurd (List.cons.inj e).1.symm (fig_none _)
  · cases (List.cons.inj e).2
  · rcases hw with rfl | rfl <;> rcases hw' with z | z <;> cases z
  · have := (List.cons.inj e).1
    cases b <;> cases b' <;> first | rfl | exact absurd this (by decide)
  · rcases hw with rfl | rfl <;> rcases hw' with z | z | z | z <;> cases z
  · cases (List.cons.inj e).2
  · exact absurd (List.cons.inj e).1 (fig_none _)
  · rcases hw' with rfl | rfl <;> rcases hw with z | z | z | z <;> cases z
  · have := fig_inj (List.cons.inj e).1
    rw [show i = i' by omega]
  · cases (List.cons.inj e).2
  · cases (List.cons.inj e).2
  · cases (List.cons.inj e).2
  · cases (List.cons.inj e).2
  · have a := fig_inj (List.cons.inj e).1
    have b := fig_inj (List.cons.inj (List.cons.inj e).2).1
    rw [show m = m' by omega, show f = f' by omega]
theorem ruleS_inj {r r' : RuleD} (g : r.good) (g' : r'.good) (h : ruleS r = ruleS r') : r = r' := by
  have e : ruleW r = ruleW r' := by rw [← words_rule g, ← words_rule g', h]
  unfold ruleW at e
  obtain ⟨e1, e⟩ := List.cons.inj e
  obtain ⟨e2, e⟩ := List.cons.inj e
  obtain ⟨e3, e4⟩ := List.cons.inj e
  have ew := Wd.word_inj e1
  have a := fig_inj e2
  have b := fig_inj e3
  obtain ⟨w, f, l, d⟩ := r
  obtain ⟨w', f', l', d'⟩ := r'
  obtain ⟨f0, f1, l1, fd⟩ := g
  obtain ⟨f0', f1', l1', fd'⟩ := g'
  dsimp only at *
  subst ew
  rw [worthW_inj fd fd' e4, show f = f' by omega, show l = l' by omega]
open Classical in
/-- the rule that a text writes -/
noncomputable def byO (t : Str) : Option RuleD := if h : ∃ r : RuleD, r.good ∧ ruleS r = t then some h.choose else none
theorem by_iff {t : Str} {r : RuleD} : byO t = some r ↔ r.good ∧ ruleS r = t := by
  unfold byO
  constructor
  · intro h
    split at h
    · rename_i e
      cases h
      exact e.choose_spec
    · cases h
  · intro h
    have e : ∃ r : RuleD, r.good ∧ ruleS r = t := ⟨r, h⟩
    rw [dif_pos e]
    exact congrArg some (ruleS_inj e.choose_spec.1 h.1 (e.choose_spec.2.trans h.2.symm))
theorem by_rule {r : RuleD} (g : r.good) : byO (ruleS r) = some r := by_iff.mpr ⟨g, rfl⟩
/-- how long a rule's text is -/
theorem joinL_len (S : List Nat) : ∀ ps : List (List Nat), (joinL S ps).length ≤ (ps.map fun p => p.length + S.length).sum
  | [] => by simp [joinL]
  | [p] => by simp [joinL]
  | p :: q :: r => by
    have := joinL_len S (q :: r)
    show (p ++ (S ++ joinL S (q :: r))).length ≤ _
    rw [List.map_cons, List.sum_cons, List.length_append, List.length_append]
    omega
theorem rule_len {r : RuleD} (g : r.good) : (ruleS r).length ≤ 60 := by
  have e : (ruleS r).length = (joinL [32] ((ruleW r).map tl)).length := by
    unfold ruleS
    rw [len_tl, join_eq, tl_join, sp_one]
  rw [e]
  refine Nat.le_trans (joinL_len _ _) ?_
  obtain ⟨f0, f1, l1, fd⟩ := g
  have lw : (tl r.w.word).length ≤ 5 := by cases r.w <;> decide
  have lf : (tl (figS r.f.toNat)).length ≤ 7 := by rw [← len_tl]; exact fig_len (by decide) (by omega)
  have ll : (tl (figS r.l.toNat)).length ≤ 7 := by rw [← len_tl]; exact fig_len (by decide) (by omega)
  have ld : ((worthW r.d).map fun p => (tl p).length + 1).sum ≤ 20 := by
    rcases fits_kind fd with ⟨e, -⟩ | ⟨b, e, -⟩ | ⟨i, e, i0, i1, -⟩ | ⟨m, f, e, m0, m1, f0, f1, -⟩
    · rw [e]; decide
    · rw [e]; cases b <;> decide
    · rw [e]
      have : (tl (figS i.toNat)).length ≤ 13 := by rw [← len_tl]; exact fig_len (by decide) (by omega)
      simp only [worthW, List.map_cons, List.map_nil, List.sum_cons, List.sum_nil]
      omega
    · rw [e]
      have h1 : (tl (figS m.toNat)).length ≤ 2 := by rw [← len_tl]; exact fig_len (by decide) (by omega)
      have h2 : (tl (figS f.toNat)).length ≤ 2 := by rw [← len_tl]; exact fig_len (by decide) (by omega)
      simp only [worthW, List.map_cons, List.map_nil, List.sum_cons, List.sum_nil]
      omega
  unfold ruleW
  simp only [List.map_cons, List.map_map, List.sum_cons, List.length_cons, List.length_nil, Function.comp_def, Nat.zero_add]
  omega
/-! YSr: str of a whole number. -/
open PySem PySem.Spec PyProof.Rows L2
/-- str of a whole number -/
def rStrI : List V → Hp → VK → Prop := fun xs H Q => ∃ i : Int, xs = [.int i] ∧ i.natAbs.log2 < 1920 ∧ Q (.str (toString i : String)) H
theorem cr_strI {X : Cx} : CallR X (.type "str") rStrI := call_str_int
theorem g_strI {i : Int} {H : Hp} {Q : VK} (h : i.natAbs.log2 < 1920) (q : Q (.str (toString i : String)) H) : rStrI [.int i] H Q := ⟨i, rfl, h, q⟩
/-! YFs: steps of readings of texts. -/
open PySem PySem.Spec PyProof.Rows L2 TL
/-- an f-string -/
def tJoined (ts : List TE) : TE := fun σ H Q => tJs ts Str.empty σ H fun out H1 => Q (.str out) H1
abbrev rSplit : V → List V → Hp → VK → Prop := fun x xs H Q => ∃ a b, x = .str a ∧ xs = [.str b] ∧ (b.length == 0) = false ∧ a.length + 2 ≤ sizeLine ∧ rNewStrs (Txt.split a b) H Q
abbrev rJoinT (K : PySem.W.Frag) : V → List V → Hp → VK → Prop := fun x xs H Q => ∃ a p, ∃ ys : List Str, x = .str a ∧ xs = [.ref p] ∧ (SqL K H p (ys.map V.str) ∨ SqT K H p (ys.map V.str)) ∧
      (ys.map (·.length)).sum + ys.length * a.length ≤ 16777216 ∧ Q (.str (Txt.join a ys)) H
abbrev rIntS : List V → Hp → VK → Prop := fun xs H Q => ∃ a n, xs = [.str a] ∧ PySem.intText? a = some n ∧ a.length ≤ 640 ∧ Q (.int n) H
abbrev rInS : R2 := fun x y H Q => ∃ (c : Nat) (z : Str), x = .str ⟨#[c]⟩ ∧ y = .str z ∧ Q (.bl (decide (c ∈ z.cps.toList))) H
abbrev rNotInS : R2 := fun x y H Q => ∃ (c : Nat) (z : Str), x = .str ⟨#[c]⟩ ∧ y = .str z ∧ Q (.bl (!decide (c ∈ z.cps.toList))) H
section
variable {K : PySem.W.Frag} {σ : L2.St} {H : Hp} {Q : VK}
theorem g_joined {ts : List TE} (h : tJs ts Str.empty σ H fun out H1 => Q (.str out) H1) : tJoined ts σ H Q := h
theorem log_of {i : Int} (h0 : 0 ≤ i) (h1 : i ≤ 1000000000000000) : i.natAbs.log2 < 1920 := by
  by_cases z : i.natAbs = 0
  · rw [z]; decide
  · rw [Nat.log2_lt z]
    exact Nat.lt_of_lt_of_le (show i.natAbs < 2 ^ 50 by omega) (Nat.pow_le_pow_right (by decide) (by decide))
theorem fig_str {i : Int} (h : 0 ≤ i) : (Str.ofString (toString i) : Str) = figS i.toNat := by
  unfold figS
  rw [show ((i.toNat : Nat) : Int) = i by omega]
theorem g_m1 {r : V → List V → Hp → VK → Prop} {to te : TE} (h : to σ H fun x H1 => (∃ a, x = .str a) ∧ te σ H1 fun y H2 => r x [y] H2 Q) : tM1 r to te σ H Q := h
theorem g_isS {a : Str} {R : Prop} (q : R) : (∃ b, V.str a = .str b) ∧ R := ⟨⟨a, rfl⟩, q⟩
theorem g_split {a : Str} {s : Nat} (l : a.length ≤ 100000) (q : ∀ p H', Same H H' → Fr H p → H' p = some (.lst ((cutS1 s a).map V.str)) → Q (.ref p) H') : rSplit (.str a) [.str ⟨#[s]⟩] H Q :=
  ⟨a, ⟨#[s]⟩, rfl, rfl, rfl, by rw [sizeLine_eq]; omega, fun p hp => q p _ (same_new hp) hp upd_same⟩
theorem g_join {a : Str} {p : Addr} {ys : List Str} (h : SqL K H p (ys.map V.str)) (l : (ys.map (·.length)).sum + ys.length * a.length ≤ 16777216) (q : Q (.str (Txt.join a ys)) H) : rJoinT K (.str a) [.ref p] H Q := ⟨a, p, ys, rfl, rfl, .inl h, l, q⟩
theorem g_intS {a : Str} {n : Nat} (h : numO a = some n) (l : a.length ≤ 640) (q : Q (.int (n : Nat)) H) : rIntS [.str a] H Q := ⟨a, _, rfl, numO_int h l, l, q⟩
theorem g_inS {c : Nat} {z : Str} (q : Q (.bl (decide (c ∈ z.cps.toList))) H) : rInS (.str ⟨#[c]⟩) (.str z) H Q := ⟨c, z, rfl, rfl, q⟩
theorem g_iStr {te : TE} {R : It → Hp → Prop} (h : te σ H fun v H1 => ∃ x, v = .str x ∧ R (Its x) H1) : iStr te σ H R := h
theorem g_exS {z : Str} {R : Str → Prop} (q : R z) : ∃ x, V.str z = .str x ∧ R x := ⟨z, rfl, q⟩
end
/-- a test that comes to b -/
theorem cutT {t : TT} {σ : L2.St} {H : Hp} {k : Bool → Hp → Prop} (b : Bool) (h : ∀ k' : Bool → Hp → Prop, k' b H → t σ H k') (q : k b H) : t σ H k := h _ q
theorem sz_of {n : Nat} (h : n ≤ 1000000) : n ≤ sizeLine := by rw [sizeLine_eq]; omega
theorem len_app (a b : Str) : (a ++ b).length = a.length + b.length := by rw [len_tl, len_tl, len_tl, tl_append, List.length_append]
section
variable {K : PySem.W.Frag} {σ : L2.St} {H : Hp} {acc y : Str} {ts : List TE} {Q : Str → Hp → Prop}
theorem g_jsVS {n : Nat} (e : σ[n]? = some (some (.str y))) (l : y.length ≤ 100000) (la : acc.length ≤ 100000) (q : tJs ts (acc ++ y) σ H Q) : tJs (tFmt (tVar n) :: ts) acc σ H Q :=
  ⟨_, e, .inl ⟨y, rfl, sz_of (by omega), y, rfl, sz_of (by rw [len_app]; omega), q⟩⟩
theorem g_jsVI {n : Nat} {i : Int} (e : σ[n]? = some (some (.int i))) (h0 : 0 ≤ i) (h1 : i < 1000000000000000) (la : acc.length ≤ 100000) (q : (figS i.toNat).length ≤ 15 → tJs ts (acc ++ figS i.toNat) σ H Q) : tJs (tFmt (tVar n) :: ts) acc σ H Q := by
  have l : (figS i.toNat).length ≤ 15 := fig_len (by decide) (by omega)
  refine ⟨_, e, .inr ⟨i, rfl, log_of h0 (by omega), _, rfl, ?_, ?_⟩⟩
  · show (acc ++ Str.ofString (toString i)).length ≤ sizeLine
    rw [fig_str h0]
    exact sz_of (by rw [len_app]; omega)
  · show tJs ts (acc ++ Str.ofString (toString i)) σ H Q
    rw [fig_str h0]
    exact q l
theorem g_jsC (l : y.length ≤ 100000) (la : acc.length ≤ 100000) (q : tJs ts (acc ++ y) σ H Q) : tJs (tC (.str y) :: ts) acc σ H Q :=
  ⟨y, rfl, sz_of (by rw [len_app]; omega), q⟩
/-- a part {x} of an f-string -/
def FmJ (acc : Str) (ts : List TE) (σ : L2.St) (Q : Str → Hp → Prop) (x : V) (H1 : Hp) : Prop := (∃ y : Str, x = .str y ∧ y.length ≤ sizeLine ∧ ∃ y' : Str, V.str y = .str y' ∧ (acc ++ y').length ≤ sizeLine ∧ tJs ts (acc ++ y') σ H1 Q) ∨ ∃ i : Int, x = .int i ∧ i.natAbs.log2 < 1920 ∧ ∃ y' : Str, V.str (toString i : String) = .str y' ∧ (acc ++ y').length ≤ sizeLine ∧ tJs ts (acc ++ y') σ H1 Q
theorem g_jsP {te : TE} (h : te σ H (FmJ acc ts σ Q)) : tJs (tFmt te :: ts) acc σ H Q := h
theorem fmj_s (l : y.length ≤ 100000) (la : acc.length ≤ 100000) (q : tJs ts (acc ++ y) σ H Q) : FmJ acc ts σ Q (.str y) H := .inl ⟨y, rfl, sz_of (by omega), y, rfl, sz_of (by rw [len_app]; omega), q⟩
theorem fmj_i {i : Int} (h0 : 0 ≤ i) (h1 : i < 1000000000000000) (la : acc.length ≤ 100000) (q : (figS i.toNat).length ≤ 15 → tJs ts (acc ++ figS i.toNat) σ H Q) : FmJ acc ts σ Q (.int i) H := by
  have l : (figS i.toNat).length ≤ 15 := fig_len (by decide) (by omega)
  refine .inr ⟨i, rfl, log_of h0 (by omega), _, rfl, ?_, ?_⟩
  · show (acc ++ Str.ofString (toString i)).length ≤ sizeLine
    rw [fig_str h0]
    exact sz_of (by rw [len_app]; omega)
  · show tJs ts (acc ++ Str.ofString (toString i)) σ H Q
    rw [fig_str h0]
    exact q l
end
/-- lists of texts that read alike -/
theorem dp_strs {K : PySem.W.Frag} {H : Hp} : ∀ xs : List Str, DpAll K H (xs.map V.str) (xs.map PyData.str)
  | [] => .nil
  | x :: xs => .cons (.str x) (dp_strs xs)
theorem eqv_strs : ∀ xs ys : List Str, PyData.eqvAll (xs.map PyData.str) (ys.map PyData.str) = decide (xs = ys)
  | [], [] => by simp [PyData.eqvAll]
  | [], _ :: _ => by simp [PyData.eqvAll]
  | _ :: _, [] => by simp [PyData.eqvAll]
  | x :: xs, y :: ys => by
    rw [List.map_cons, List.map_cons]
    simp only [PyData.eqvAll]
    rw [eqv_strs xs ys]
    have : PyData.eqv (.str x) (.str y) = decide (x = y) := by
      rw [show PyData.eqv (.str x) (.str y) = (x == y) by simp [PyData.eqv], Bool.eq_iff_iff, beq_iff_eq, decide_eq_true_eq]
    rw [this]
    by_cases a : x = y <;> by_cases b : xs = ys <;> simp [a, b]
theorem ok_iff {x : Str} : PyData.strOk x = true ↔ ∀ c ∈ tl x, c < 1114112 := by
  unfold PyData.strOk
  rw [Array.all_eq_true_iff_forall_mem]
  constructor
  · intro h c hc
    simpa using h c (Array.mem_toList_iff.mp hc)
  · intro h c hc
    simpa using h c (Array.mem_toList_iff.mpr hc)
theorem spl1_mem {s c : Nat} : ∀ {l acc p : List Nat}, p ∈ spl [s] 0 acc l → c ∈ p → c ∈ acc ++ l
  | [], acc, p, h, hc => by
    rw [spl_nil] at h
    rw [List.mem_singleton.mp h] at hc
    simpa using hc
  | a :: r, acc, p, h, hc => by
    rw [spl1_cons] at h
    split at h
    · rcases List.mem_cons.mp h with rfl | h
      · exact List.mem_append_left _ hc
      · have := spl1_mem h hc
        simp at this ⊢
        exact .inr (.inr this)
    · have := spl1_mem h hc
      simp at this ⊢
      omega
theorem ok_cut {s : Nat} (hs : s < 256) {x p : Str} (h : PyData.strOk x = true) (hp : p ∈ cutS1 s x) : PyData.strOk p = true := by
  rw [ok_iff] at h ⊢
  intro c hc
  have : tl p ∈ spl [s] 0 [] (tl x) := by
    rw [← cut_spl hs x]
    exact List.mem_map_of_mem hp
  exact h c (by simpa using spl1_mem this hc)
theorem ok_fig (n : Nat) : PyData.strOk (figS n) = true := ok_iff.mpr fun c hc => by
  rw [tl_fig] at hc
  have := numL_digits n c hc
  omega
theorem sh_strs {xs : List Str} (h : ∀ x ∈ xs, PyData.strOk x = true) : Sh 1 (.list (xs.map PyData.str)) := sh_lst (n := 0) fun d hd => by
  obtain ⟨x, hx, rfl⟩ := List.mem_map.mp hd
  exact sh_str (h x hx) _
theorem g_eqStrs {K : PySem.W.Frag} {H : Hp} {Q : VK} {p q : Addr} {xs ys : List Str} (h : SqL K H p (xs.map V.str)) (k : SqL K H q (ys.map V.str)) (hx : ∀ x ∈ xs, PyData.strOk x = true) (hy : ∀ x ∈ ys, PyData.strOk x = true) (r : Q (.bl (decide (xs = ys))) H) : rEqD K (.ref p) (.ref q) H Q :=
  ⟨_, _, .lst h (dp_strs xs), .lst k (dp_strs ys), (sh_strs hx).ok (by decide), (sh_strs hy).ok (by decide), by rw [PyData.eqv, eqv_strs]; exact r⟩
/-! YTx: walks of texts.py: a rule as a text, a text's rule. -/
open PySem PySem.Spec PyProof.Rows L2 TL
def worthS (d : PyData) : Str := Txt.join " " (worthW d)
theorem rule_str {r : RuleD} (g : r.good) : ruleS r = Str.empty ++ r.w.word ++ " " ++ figS r.f.toNat ++ " " ++ figS r.l.toNat ++ " " ++ worthS r.d := by
  refine ext_tl ?_
  unfold ruleS worthS ruleW
  rw [join_eq, join_eq, tl_join]
  simp only [tl_append, List.map_cons]
  have e : tl Str.empty = [] := rfl
  rw [e, List.nil_append]
  cases h : worthW r.d with
  | nil =>
    have := worth_len g.2.2.2
    rw [h] at this
    simp at this
  | cons a l =>
    rw [tl_join]
    simp only [List.map_cons, joinL, List.append_assoc]
theorem worthS_one {d : PyData} {x : Str} (h : worthW d = [x]) : worthS d = x := by
  unfold worthS
  rw [h, join_eq]
  rfl
theorem worthS_two {d : PyData} {x y : Str} (h : worthW d = [x, y]) : worthS d = Str.empty ++ x ++ " " ++ y := by
  unfold worthS
  rw [h, join_eq]
  refine ext_tl ?_
  rw [tl_join]
  simp only [tl_append]
  show tl x ++ (tl " " ++ tl y) = [] ++ tl x ++ tl " " ++ tl y
  simp
theorem td_twoI {H : Hp} {x : V} {m f : Int} (h : Td H x (.tuple [.int m, .int f])) : ∃ q, x = .ref q ∧ H q = some (.tup [.int m, .int f]) := by
  cases h with
  | tup h r =>
    cases r with
    | cons a r =>
      cases r with
      | cons b r =>
        cases r
        cases a
        cases b
        exact ⟨_, rfl, h⟩
theorem g_ixA {K : PySem.W.Frag} {H : Hp} {Q : VK} {p : Addr} {xs : List V} {i : Int} {v : V} (h : SqT K H p xs) (a : atI xs i = some v) (q : Q v H) : rIx K (.ref p) (.int i) H Q := .inr (.inl (g_ixT h a q))
theorem g_int1b {H : Hp} {Q : VK} {b : Bool} (q : Q (.int (if b then 1 else 0)) H) : rInt1 [.bl b] H Q := .inr ⟨b, rfl, q⟩
theorem worth_sz {w : Wd} {d : PyData} (h : fitsD w d = true) : (worthS d).length ≤ 20 := by
  rcases fits_kind h with ⟨rfl, -⟩ | ⟨b, rfl, -⟩ | ⟨i, rfl, i0, i1, -⟩ | ⟨m, f, rfl, m0, m1, f0, f1, -⟩
  · decide
  · cases b <;> decide
  · rw [worthS_one (x := figS i.toNat) rfl]
    exact Nat.le_trans (fig_len (k := 13) (by decide) (by omega)) (by decide)
  · rw [worthS_two (x := figS m.toNat) (y := figS f.toNat) rfl]
    have h1 : (figS m.toNat).length ≤ 2 := fig_len (by decide) (by omega)
    have h2 : (figS f.toNat).length ≤ 2 := fig_len (by decide) (by omega)
    rw [len_app, len_app, len_app]
    have e1 : Str.empty.length = 0 := rfl
    have e2 : (" " : Str).length = 1 := by decide
    omega
theorem fig_in (c : Nat) : decide (c ∈ ("0123456789" : Str).cps.toList) = digB c := by
  have e : ("0123456789" : Str).cps.toList = [48, 49, 50, 51, 52, 53, 54, 55, 56, 57] := by decide
  rw [e]
  unfold digB
  rw [Bool.eq_iff_iff, decide_eq_true_eq, Bool.and_eq_true, decide_eq_true_eq, decide_eq_true_eq]
  simp
  omega
theorem sign_map (z : Str) (f : Nat → Bool) : (List.range z.cps.size).filterMap (fun i => (z.cps[i]?).map fun c => V.bl (f c)) = (tl z).map fun c => V.bl (f c) := by
  have := range_flt (tl z) fun c => some (V.bl (f c))
  have e1 : (fun (i : Nat) => (z.cps[i]?).map fun c => V.bl (f c)) = fun (i : Nat) => ((tl z)[i]?).bind fun c => some (V.bl (f c)) := by
    funext i
    rw [Array.getElem?_toList]
    cases z.cps[i]? <;> rfl
  rw [e1, show z.cps.size = (tl z).length by simp [tl], this]
  simp
def numV : Option Nat → V | some n => .int (n : Nat) | none => .non
def numD : Option Nat → PyData | some n => .int (n : Nat) | none => .none
theorem num_td (H : Hp) (o : Option Nat) : Td H (numV o) (numD o) := by cases o <;> constructor
open Classical in
noncomputable def worthsL (w : Str) (ws : List Str) : List PyData :=
  if w = "come" ∨ w = "go" then (if ws = [("yes" : Str)] then [.bool true] else if ws = [("no" : Str)] then [.bool false] else [])
  else if ws = [("none" : Str)] then [.none]
  else if w = "deal" then [.tuple (ws.map fun x => numD (numO x))]
  else if ws.length = 1 then ws.map fun x => numD (numO x) else []
theorem asRule_back {z : Str} {a b d : PyData} {r : RuleD} (h : asRule (.tuple [.str z, a, b, d]) = some r) : r.good ∧ z = r.w.word ∧ a = .int r.f ∧ b = .int r.l ∧ d = r.d := by
  unfold asRule at h
  split at h
  · rename_i z' f l d' e
    cases e
    split at h
    · rename_i w ew
      split at h
      · rename_i c
        cases h
        rw [Bool.and_eq_true] at c
        obtain ⟨c1, c2⟩ := c
        have hw : w.word = z := by
          have := List.find?_some ew
          exact of_decide_eq_true this
        have : (isDay (.int f) && (isDay (.int l) && decide (f ≤ l))) = true := c1
        unfold isDay at this
        simp only [Bool.and_eq_true, decide_eq_true_eq] at this
        exact ⟨⟨this.1.1, this.2.2, this.2.1.2, c2⟩, hw.symm, rfl, rfl, rfl⟩
      · cases h
    · cases h
  · cases h
theorem worthsL_rule {w : Wd} {d : PyData} (h : fitsD w d = true) : worthsL w.word (worthW d) = [d] := by
  unfold worthsL
  have wd : ∀ {u : Wd}, w.word = u.word ↔ w = u := fun {u} => ⟨Wd.word_inj, fun e => by rw [e]⟩
  rcases fits_kind h with ⟨rfl, hw⟩ | ⟨b, rfl, hw⟩ | ⟨i, rfl, i0, i1, hw⟩ | ⟨m, f, rfl, m0, m1, f0, f1, hw⟩
  · rw [if_neg, if_pos (show worthW .none = [("none" : Str)] from rfl)]
    rintro (e | e)
    · have := wd (u := .come).mp e
      rcases hw with rfl | rfl <;> cases this
    · have := wd (u := .go).mp e
      rcases hw with rfl | rfl <;> cases this
  · rw [if_pos (by rcases hw with rfl | rfl; exact .inl rfl; exact .inr rfl)]
    cases b
    · rw [if_neg (by decide)]
      rfl
    · rfl
  · rw [if_neg, if_neg, if_neg, if_pos (show (worthW (.int i)).length = 1 from rfl)]
    · show [numD (numO (figS i.toNat))] = [.int i]
      rw [numO_fig]
      show [PyData.int (i.toNat : Nat)] = _
      rw [show ((i.toNat : Nat) : Int) = i by omega]
    · intro e
      have := wd (u := .deal).mp e
      rcases hw with rfl | rfl | rfl | rfl <;> cases this
    · intro e
      exact fig_none _ (List.cons.inj e).1
    · rintro (e | e)
      · have := wd (u := .come).mp e
        rcases hw with rfl | rfl | rfl | rfl <;> cases this
      · have := wd (u := .go).mp e
        rcases hw with rfl | rfl | rfl | rfl <;> cases this
  · subst hw
    rw [if_neg (by decide), if_neg (by intro e; cases (List.cons.inj e).2), if_pos (show Wd.deal.word = "deal" from rfl)]
    show [PyData.tuple [numD (numO (figS m.toNat)), numD (numO (figS f.toNat))]] = _
    rw [numO_fig, numO_fig]
    show [PyData.tuple [.int (m.toNat : Nat), .int (f.toNat : Nat)]] = _
    rw [show ((m.toNat : Nat) : Int) = m by omega, show ((f.toNat : Nat) : Int) = f by omega]
theorem nums_tds (H : Hp) (ws : List Str) : Tds H (ws.map fun x => numV (numO x)) (ws.map fun x => numD (numO x)) := by
  induction ws with
  | nil => exact .nil
  | cons a l ih => exact .cons (num_td H _) ih
def sp_worth_text (K : PySem.W.Frag) : Sp := Sp2 fun u v H Q E => ∃ (w : Wd) (d : PyData), u = .str w.word ∧ Td H v d ∧ fitsD w d = true ∧ ∀ H', Same H H' → Q (.str (worthS d)) H'
def sp_rule_text (K : PySem.W.Frag) : Sp := Sp1 fun v H Q E => ∃ r, RuT H v r ∧ r.good ∧ ∀ H', Same H H' → Q (.str (ruleS r)) H'
def sp_number_by (K : PySem.W.Frag) : Sp := Sp1 fun u H Q E => ∃ x : Str, u = .str x ∧ x.length ≤ 640 ∧ ∀ H', Same H H' → Q (numV (numO x)) H'
def sp_worths_by (K : PySem.W.Frag) : Sp := Sp2 fun u v H Q E => ∃ (w : Str) (p : Addr) (ws : List Str), u = .str w ∧ v = .ref p ∧ H p = some (.lst (ws.map V.str)) ∧ ws.length ≤ 1000 ∧ (∀ x ∈ ws, PyData.strOk x = true ∧ x.length ≤ 640) ∧ ∀ (l : Addr) (H' : Hp) (ys : List V), Same H H' → H' l = some (.lst ys) → Tds H' ys (worthsL w ws) → Q (.ref l) H'
def sp_rule_by (K : PySem.W.Frag) : Sp := Sp1 fun u H Q E => CFR K ∧ ∃ z : Str, u = .str z ∧ PyData.strOk z = true ∧ z.length ≤ 640 ∧ (byO z = none → ∀ H', Same H H' → Q .non H') ∧ ∀ r, byO z = some r → ∀ v H', Same H H' → RuT H' v r → Q v H'
theorem g_worth_text {K : PySem.W.Frag} {w : Wd} {d : PyData} {v : V} {H : Hp} {Q : VK} {E : XK} (h : Td H v d) (f : fitsD w d = true) (q : ∀ H', Same H H' → Q (.str (worthS d)) H') : sp_worth_text K ([.str w.word, v] ++ []) H Q E := ⟨_, _, rfl, w, d, rfl, h, f, q⟩
theorem g_rule_text {K : PySem.W.Frag} {r : RuleD} {v : V} {H : Hp} {Q : VK} {E : XK} (h : RuT H v r) (g : r.good) (q : ∀ H', Same H H' → Q (.str (ruleS r)) H') : sp_rule_text K ([v] ++ []) H Q E := ⟨_, rfl, r, h, g, q⟩
theorem g_number_by {K : PySem.W.Frag} {x : Str} {H : Hp} {Q : VK} {E : XK} (l : x.length ≤ 640) (q : ∀ H', Same H H' → Q (numV (numO x)) H') : sp_number_by K ([.str x] ++ []) H Q E := ⟨_, rfl, x, rfl, l, q⟩
theorem g_worths_by {K : PySem.W.Frag} {w : Str} {p : Addr} {ws : List Str} {H : Hp} {Q : VK} {E : XK} (h : H p = some (.lst (ws.map V.str))) (l : ws.length ≤ 1000) (o : ∀ x ∈ ws, PyData.strOk x = true ∧ x.length ≤ 640) (q : ∀ (l : Addr) (H' : Hp) (ys : List V), Same H H' → H' l = some (.lst ys) → Tds H' ys (worthsL w ws) → Q (.ref l) H') : sp_worths_by K ([.str w, .ref p] ++ []) H Q E := ⟨_, _, rfl, w, p, ws, rfl, rfl, h, l, o, q⟩
theorem g_rule_by {K : PySem.W.Frag} {z : Str} {H : Hp} {Q : VK} {E : XK} (cf : CFR K) (o : PyData.strOk z = true) (l : z.length ≤ 640) (q1 : byO z = none → ∀ H', Same H H' → Q .non H') (q2 : ∀ r, byO z = some r → ∀ v H', Same H H' → RuT H' v r → Q v H') : sp_rule_by K ([.str z] ++ []) H Q E := ⟨_, rfl, cf, z, rfl, o, l, q1, q2⟩
def t_worth_text (K : PySem.W.Frag) : TS :=
  (tSeq (tIfS (tTest (tOp rIsN (tVar 1) (tC .non)))
  (tRet (tC (.str "none")))
  tNext)
  (tSeq (tIfS (tOr (tTest (tOp rEq (tVar 0) (tC (.str "come")))) (tTest (tOp rEq (tVar 0) (tC (.str "go")))))
  (tRet (tOp (rIxL K) (tLst (tCons (tC (.str "no")) (tCons (tC (.str "yes")) tNil))) (tCB rInt1 (tCons (tVar 1) tNil))))
  tNext)
  (tSeq (tIfS (tTest (tOp rEq (tVar 0) (tC (.str "deal"))))
  (tRet (Y.tJoined [tFmt (tOp (rIx K) (tVar 1) (tC (.int 0))), (tC (.str " ")), tFmt (tOp (rIx K) (tVar 1) (tC (.int 1)))]))
  tNext)
  (tRet (tCB Y.rStrI (tCons (tVar 1) tNil))))))
theorem pure_worth_text {K : PySem.W.Frag} {x y : V} {H : Hp} {Q : VK} {E : XK} (h : sp_worth_text K [x, y] H Q E) : t_worth_text K { nx := fun _ H' => Q .non H', rt := Q } [some x, some y] H := by
  obtain ⟨x, y, e, w, d, rfl, hd, f, q⟩ := h
  cases e
  unfold t_worth_text
  walk_at "ss"
  rcases fits_kind f with ⟨rfl, hw⟩ | ⟨b, rfl, hw⟩ | ⟨i, rfl, i0, i1, hw⟩ | ⟨m, k, rfl, m0, m1, f0, f1, hw⟩
  · cases hd
    refine ite_t (by decide) ?_
    walk_at "ss"
    have := q _ (Same.refl _)
    rwa [worthS_one (x := "none") rfl] at this
  · cases hd
    refine ite_f (decide_eq_false (by intro z; cases z)) ?_
    have fin : ∀ {H' : Hp}, Same H H' → Q (.str (if b = true then "yes" else "no")) H' := fun s => by
      have := q _ s
      rwa [worthS_one (x := if b = true then "yes" else "no") rfl] at this
    clear q
    rcases hw with rfl | rfl
    · walk_at "ss"
      refine ite_dt rfl ?_
      walk_at "ss"
      rename_i p1 hp1
      refine g_int1b ?_
      cases b
      · exact g_ixL (i := 0) (SqL.of upd_same) (at_k0 rfl) (fin (same_new hp1))
      · exact g_ixL (i := 1) (SqL.of upd_same) (at_k1 rfl) (fin (same_new hp1))
    · walk_at "ss"
      refine ite_df (by decide) ?_
      walk_at "ss"
      refine ite_dt rfl ?_
      walk_at "ss"
      rename_i p1 hp1
      refine g_int1b ?_
      cases b
      · exact g_ixL (i := 0) (SqL.of upd_same) (at_k0 rfl) (fin (same_new hp1))
      · exact g_ixL (i := 1) (SqL.of upd_same) (at_k1 rfl) (fin (same_new hp1))
  · cases hd
    refine ite_f (decide_eq_false (by intro z; cases z)) ?_
    walk_at "ss"
    refine ite_df (fun z => ?_) ?_
    · have := Wd.word_inj (v := .come) (V.str.inj z)
      rcases hw with rfl | rfl | rfl | rfl <;> cases this
    walk_at "ss"
    refine ite_df (fun z => ?_) ?_
    · have := Wd.word_inj (v := .go) (V.str.inj z)
      rcases hw with rfl | rfl | rfl | rfl <;> cases this
    walk_at "ss"
    refine ite_df (fun z => ?_) ?_
    · have := Wd.word_inj (v := .deal) (V.str.inj z)
      rcases hw with rfl | rfl | rfl | rfl <;> cases this
    walk_at "ss"
    refine g_strI (log_of i0 (by omega)) ?_
    have := q _ (Same.refl _)
    rw [worthS_one (x := figS i.toNat) rfl, ← fig_str i0] at this
    exact this
  · subst hw
    obtain ⟨t, rfl, ht⟩ := td_twoI hd
    refine ite_f (decide_eq_false (by intro z; cases z)) ?_
    walk_at "ss"
    refine ite_df (by decide) ?_
    walk_at "ss"
    refine ite_df (by decide) ?_
    walk_at "ss"
    refine ite_dt rfl ?_
    with_reducible refine g_ret ?_
    have h1 : (figS m.toNat).length ≤ 2 := fig_len (by decide) (by omega)
    have h2 : (figS k.toNat).length ≤ 2 := fig_len (by decide) (by omega)
    have ls : (" " : Str).length = 1 := by decide
    have le : (Str.empty).length = 0 := rfl
    have fin := q _ (Same.refl _)
    rw [worthS_two (x := figS m.toNat) (y := figS k.toNat) rfl] at fin
    refine g_joined ?_
    refine g_jsP ?_
    walk_at "ss"
    refine g_ixA (SqT.of ht) atI_zero (fmj_i (by omega) (by omega) (by omega) fun _ => ?_)
    refine g_jsC (by omega) (by rw [len_app]; omega) ?_
    refine g_jsP ?_
    walk_at "ss"
    refine g_ixA (SqT.of ht) (at_k1 rfl) (fmj_i (by omega) (by omega) (by simp only [len_app]; omega) fun _ => ?_)
    exact fin
def t_rule_text (K : PySem.W.Frag) : TS :=
  (tSeq (tAsg (tVar 0) (gTup K 4 (gCons (gName 1) (gCons (gName 2) (gCons (gName 3) (gCons (gName 4) gNil))))))
  (tRet (Y.tJoined [tFmt (tVar 1), (tC (.str " ")), tFmt (tVar 2), (tC (.str " ")), tFmt (tVar 3), (tC (.str " ")), tFmt (tCall (sp_worth_text K) [] E0 (tCons (tVar 1) (tCons (tVar 4) tNil)))])))
theorem pure_rule_text {K : PySem.W.Frag} {x : V} {H : Hp} {Q : VK} {E : XK} (h : sp_rule_text K [x] H Q E) : t_rule_text K { nx := fun _ H' => Q .non H', rt := Q } [some x, none, none, none, none] H := by
  obtain ⟨x, e, r, ⟨p, wv, rfl, hp, hw⟩, g, q⟩ := h
  cases e
  unfold t_rule_text
  walk_at "ss"
  dsimp only [List.set]
  have hl := rule_str g
  have l1 : (r.w.word).length ≤ 5 := by cases r.w <;> decide
  have ls : (" " : Str).length = 1 := by decide
  have le : (Str.empty).length = 0 := rfl
  obtain ⟨f0, f1, f2, fd⟩ := g
  have lw := worth_sz fd
  refine g_joined ?_
  refine g_jsVS rfl (by omega) (by omega) ?_
  refine g_jsC (by omega) (by rw [len_app]; omega) ?_
  refine g_jsVI rfl (by omega) (by omega) (by simp only [len_app]; omega) fun h2 => ?_
  refine g_jsC (by omega) (by simp only [len_app]; omega) ?_
  refine g_jsVI rfl (by omega) (by omega) (by simp only [len_app]; omega) fun h3 => ?_
  refine g_jsC (by omega) (by simp only [len_app]; omega) ?_
  refine g_jsP ?_
  walk_at "ss"
  refine g_worth_text hw fd fun H' s' => fmj_s (by omega) (by simp only [len_app]; omega) ?_
  have := q _ s'
  rw [hl] at this
  exact this
def t_number_by (K : PySem.W.Frag) : TS :=
  (tSeq (tIfS (tOr (tTest (tOp rEq (tVar 0) (tC (.str "")))) (tOr (tNot (tB (tCB (rAll K) (tCons (tLc (iStr (tVar 0)) (gName 1) tYes (tOp Y.rInS (tVar 1) (tC (.str "0123456789"))) [1]) tNil)))) (tAnd (tTest (tOp rEq (tOp rIxS (tVar 0) (tC (.int 0))) (tC (.str "0")))) (tTest (tOp rNe (tVar 0) (tC (.str "0")))))))
  (tRet (tC .non))
  tNext)
  (tRet (tCB Y.rIntS (tCons (tVar 0) tNil))))
theorem pure_number_by {K : PySem.W.Frag} {x : V} {H : Hp} {Q : VK} {E : XK} (h : sp_number_by K [x] H Q E) : t_number_by K { nx := fun _ H' => Q .non H', rt := Q } [some x, none] H := by
  obtain ⟨x, e, z, rfl, l, q⟩ := h
  cases e
  unfold t_number_by
  have yes : ∀ {H'}, Same H H' → ∀ n, numO z = some n → Q (.int (n : Nat)) H' := fun s n e => by have := q _ s; rwa [e] at this
  have no : ∀ {H'}, Same H H' → numO z = none → Q .non H' := fun s e => by have := q _ s; rwa [e] at this
  clear q
  walk_at "ss"
  rw [str_eq]
  refine ite_d (fun z0 => ?_) fun z0 => ?_
  · walk_at "ss"
    exact no (Same.refl _) (by rw [z0]; decide)
  walk_at "ss"
  with_reducible refine g_iStr ?_
  walk_at "ss"
  refine g_exS ?_
  refine lc_w walk_str (fun i => (z.cps[i]?).map fun c => V.bl (digB c)) ?_ (fun _ _ => trivial) ?_ ?_
  · have : z.length = z.cps.size := rfl
    omega
  · rintro D i xj H6 H7 N hD hi s6 ⟨rfl, c, hc, rfl⟩ hy hn2
    rw [hc] at hy
    walk_at "ss"
    refine g_inS ?_
    rw [fig_in]
    exact hy _ _ rfl (Same.refl _)
  intro D H' hD s' h'
  rw [sign_map z digB] at h'
  walk_at "ss"
  refine g_all (bs := (tl z).map digB) (SqL.of (by rw [h', List.map_map]; rfl)) ?_
  rw [List.all_map]
  have ed : (tl z).all (id ∘ digB) = (tl z).all digB := rfl
  rw [ed]
  walk_at "ss"
  have nc : canB (tl z) = false → numO z = none := fun e => by unfold numO; rw [e]; rfl
  cases hd : (tl z).all digB with
  | false =>
    walk_at "ss"
    exact no s' (nc (by unfold canB; rw [hd]; rfl))
  | true =>
    walk_at "ss"
    have hne : tl z ≠ [] := fun e => z0 (ext_tl e)
    obtain ⟨c, r, ecr⟩ : ∃ c r, tl z = c :: r := by
      cases e : tl z with
      | nil => exact absurd e hne
      | cons c r => exact ⟨c, r, rfl⟩
    refine ⟨z, 0, c, rfl, rfl, sz_of (by omega), ?_, ?_⟩
    · show atI (tl z) 0 = some c
      rw [ecr]
      exact atI_nat (j := 0) rfl
    walk_at "ss"
    rw [str_eq]
    have fin : canB (tl z) = true → rIntS [.str z] H' Q := fun cz => by
      obtain ⟨n, hn⟩ : ∃ n, numO z = some n := by unfold numO; rw [if_pos cz]; exact ⟨_, rfl⟩
      exact g_intS hn l (yes s' n hn)
    refine ite_d (fun z1 => ?_) fun z1 => ?_
    · have c48 : c = 48 := by
        have e : tl (⟨#[c]⟩ : Str) = tl "0" := by rw [z1]
        have e2 : [c] = [48] := e
        exact (List.cons.inj e2).1
      walk_at "ss"
      rw [str_eq]
      refine ite_nd (fun z2 => ?_) fun z2 => ?_
      · walk_at "ss"
        refine fin ?_
        rw [z2]
        decide
      · walk_at "ss"
        refine no s' (nc ?_)
        unfold canB
        have n48 : tl z ≠ [48] := fun e => z2 (ext_tl (by rw [e]; decide))
        rw [decide_eq_false n48, ecr, c48]
        simp
    · walk_at "ss"
      refine fin ?_
      unfold canB
      have : (tl z).head? ≠ some 48 := by
        rw [ecr]
        intro e
        have e : c = 48 := Option.some.inj e
        rw [e] at z1
        exact z1 (by decide)
      rw [hd, decide_eq_false this, ecr]
      simp
def t_worths_by (K : PySem.W.Frag) : TS :=
  (tSeq (tIfS (tOr (tTest (tOp rEq (tVar 0) (tC (.str "come")))) (tTest (tOp rEq (tVar 0) (tC (.str "go")))))
  (tRet (tLc (iTup K (tTup (tCons (tTup (tCons (tC (.str "yes")) (tCons (tC (.bl true)) tNil))) (tCons (tTup (tCons (tC (.str "no")) (tCons (tC (.bl false)) tNil))) tNil)))) (gTup K 2 (gCons (gName 4) (gCons (gName 5) gNil))) (tTest (tOp (rEqD K) (tVar 1) (tLst (tCons (tVar 4) tNil)))) (tVar 5) [4, 5]))
  tNext)
  (tSeq (tIfS (tTest (tOp (rEqD K) (tVar 1) (tLst (tCons (tC (.str "none")) tNil))))
  (tRet (tLst (tCons (tC .non) tNil)))
  tNext)
  (tSeq (tAsg (tLc (iList K (tVar 1)) (gName 3) tYes (tCall (sp_number_by K) [] E0 (tCons (tVar 3) tNil)) [3]) (gName 2))
  (tSeq (tIfS (tTest (tOp rEq (tVar 0) (tC (.str "deal"))))
  (tRet (tLst (tCons (tCB (rTupOf K) (tCons (tVar 2) tNil)) tNil)))
  tNext)
  (tRet (tSl (rSlL K) (tVar 2) tNoPart (tPart (tCB rInt1 (tCons (tOp rEq (tCB (rLen K) (tCons (tVar 2) tNil)) (tC (.int 1))) tNil)))))))))
theorem pure_worths_by {K : PySem.W.Frag} {x y : V} {H : Hp} {Q : VK} {E : XK} (h : sp_worths_by K [x, y] H Q E) : t_worths_by K { nx := fun _ H' => Q .non H', rt := Q } [some x, some y, none, none, none, none] H := by
  obtain ⟨x, y, e, w, p, ws, rfl, rfl, hp, hl, ho, q⟩ := h
  cases e
  unfold t_worths_by
  have yes : ∀ {l : Addr} {H' : Hp} {ys : List V} {ds : List PyData}, worthsL w ws = ds → Same H H' → H' l = some (.lst ys) → Tds H' ys ds → Q (.ref l) H' := fun e s h t => q _ _ _ s h (by rw [e]; exact t)
  clear q
  have okw : ∀ x ∈ ws, PyData.strOk x = true := fun x hx => (ho x hx).1
  with_reducible refine g_seq ?_
  with_reducible refine g_ifS ?_
  refine cutT (decide (w = "come") || decide (w = "go")) (fun k' hk => ?_) ?_
  · walk_at "ss"
    rw [str_eq]
    refine ite_b (fun z => ?_) fun z => ?_
    · rw [z] at hk
      exact hk
    · rw [z, Bool.false_or] at hk
      walk_at "ss"
      rw [str_eq]
      exact hk
  refine ite_b (fun z => ?_) fun z => ?_
  · have zc : w = "come" ∨ w = "go" := by simpa using z
    walk_at "ss"
    rename_i p1 hp1 p2 hp2 p3 hp3
    refine lc_w (walk_tup (K := K) (a := p3) (xs := [.ref p1, .ref p2])) (fun i => match i with | 0 => if ws = [("yes" : Str)] then some (V.bl true) else none | _ => if ws = [("no" : Str)] then some (V.bl false) else none) (by simp) (fun H' s => SqT.of (s _ _ upd_same)) ?_ ?_
    · rintro D i x H6 H7 N hD hi s6 ⟨rfl, hx⟩ hy hn
      have hp' := s6 _ _ (at_new hp3 (at_new hp2 (at_new hp1 hp)))
      have h1 : H7 p1 = some (.tup [.str "yes", .bl true]) := s6 _ _ (at_new hp3 (at_new hp2 upd_same))
      have h2 : H7 p2 = some (.tup [.str "no", .bl false]) := s6 _ _ (at_new hp3 upd_same)
      match i, hx with
      | 0, hx =>
        cases hx
        walk_at "ss"
        rename_i p4 hp4
        refine g_eqStrs (xs := ws) (ys := [("yes" : Str)]) (SqL.of (at_new hp4 hp')) (SqL.of upd_same) okw (fun x hx => by rw [List.mem_singleton.mp hx]; decide +kernel) ?_
        refine ⟨_, rfl, ?_⟩
        refine ite_d (fun z => ?_) fun z => ?_
        · walk_at "ss"
          exact hy _ _ (if_pos z) (same_new hp4)
        · exact hn _ (if_neg z) (same_new hp4)
      | 1, hx =>
        cases hx
        walk_at "ss"
        rename_i p4 hp4
        refine g_eqStrs (xs := ws) (ys := [("no" : Str)]) (SqL.of (at_new hp4 hp')) (SqL.of upd_same) okw (fun x hx => by rw [List.mem_singleton.mp hx]; decide +kernel) ?_
        refine ⟨_, rfl, ?_⟩
        refine ite_d (fun z => ?_) fun z => ?_
        · walk_at "ss"
          exact hy _ _ (if_pos z) (same_new hp4)
        · exact hn _ (if_neg z) (same_new hp4)
    · intro D H' hD s' h'
      have S : Same H H' := ((same_new hp1).trans ((same_new hp2).trans (same_new hp3))).trans s'
      have e0 : worthsL w ws = if ws = [("yes" : Str)] then [.bool true] else if ws = [("no" : Str)] then [.bool false] else [] := by unfold worthsL; rw [if_pos zc]
      by_cases z1 : ws = [("yes" : Str)]
      · rw [if_pos z1] at e0
        refine yes e0 S h' ?_
        have : ¬ ws = [("no" : Str)] := by rw [z1]; decide
        simp [List.range_succ, z1, this]
        exact .cons (.bl _) .nil
      · rw [if_neg z1] at e0
        by_cases z2 : ws = [("no" : Str)]
        · rw [if_pos z2] at e0
          refine yes e0 S h' ?_
          have zn : ¬ ("no" : Str) = ("yes" : Str) := by decide
          simp [List.range_succ, z2, zn]
          exact .cons (.bl _) .nil
        · rw [if_neg z2] at e0
          refine yes e0 S h' ?_
          simp [List.range_succ, z1, z2]
          exact .nil
  · have zc : ¬ (w = "come" ∨ w = "go") := by simpa using z
    walk_at "ss"
    rename_i p1 hp1
    refine g_eqStrs (xs := ws) (ys := [("none" : Str)]) (SqL.of (at_new hp1 hp)) (SqL.of upd_same) okw (fun x hx => by rw [List.mem_singleton.mp hx]; decide +kernel) ?_
    walk_at "ss"
    refine ite_d (fun z1 => ?_) fun z1 => ?_
    · walk_at "ss"
      rename_i p2 hp2
      refine yes (by unfold worthsL; rw [if_neg zc, if_pos z1]) ((same_new hp1).trans (same_new hp2)) upd_same (.cons .non .nil)
    · walk_at "ss"
      refine lc_w (walk_list (K := K) (a := p) (xs := ws.map V.str)) (fun i => (ws[i]?).map fun x => numV (numO x)) (by rw [List.length_map]; omega) (fun H' s => SqL.of (s _ _ (at_new hp1 hp))) ?_ ?_
      · rintro D i x H6 H7 N hD hi s6 ⟨rfl, hx⟩ hy hn
        obtain ⟨u, rfl, hu⟩ := map_get hx
        walk_at "ss"
        refine g_number_by (ho u (List.mem_of_getElem? hu)).2 fun H8 s8 => ?_
        walk_at "ss"
        exact hy _ _ (by rw [hu]; rfl) s8
      · intro D H' hD s' h'
        have S : Same H H' := (same_new hp1).trans s'
        have e : (List.range (ws.map V.str).length).filterMap (fun i => (ws[i]?).map fun x => numV (numO x)) = ws.map fun x => numV (numO x) := by
          rw [List.length_map]
          have := range_flt ws fun x => some (numV (numO x))
          have e2 : (fun (i : Nat) => (ws[i]?).map fun x => numV (numO x)) = fun (i : Nat) => (ws[i]?).bind fun x => some (numV (numO x)) := by
            funext i
            cases ws[i]? <;> rfl
          rw [e2, this]
          simp
        rw [e] at h'
        dsimp only [List.set]
        walk_at "ss"
        rw [str_eq]
        refine ite_d (fun z2 => ?_) fun z2 => ?_
        · walk_at "ss"
          refine ⟨D, _, rfl, .inl ⟨SqL.of h', fun t ht => ?_⟩⟩
          walk_at "ss"
          rename_i p5 hp5
          refine yes (by unfold worthsL; rw [if_neg zc, if_neg z1, if_pos z2]) (S.trans ((same_new ht).trans (same_new hp5))) upd_same (.cons (.tup (at_new hp5 upd_same) (nums_tds _ ws)) .nil)
        · walk_at "ss"
          rw [List.length_map, int_eq]
          refine g_int1b ?_
          by_cases z3 : ws.length = 1
          · rw [decide_eq_true (show ((ws.length : Nat) : Int) = 1 by omega)]
            refine ⟨1, rfl, ?_⟩
            refine g_slTo (by decide) (SqL.of h') fun a ha => ?_
            refine yes (by unfold worthsL; rw [if_neg zc, if_neg z1, if_neg z2, if_pos z3]) (S.trans (same_new ha)) upd_same ?_
            rw [List.take_of_length_le (by rw [List.length_map, z3]; decide)]
            exact nums_tds _ ws
          · rw [decide_eq_false (show ¬ ((ws.length : Nat) : Int) = 1 by omega)]
            refine ⟨0, rfl, ?_⟩
            refine g_slTo (by decide) (SqL.of h') fun a ha => ?_
            refine yes (by unfold worthsL; rw [if_neg zc, if_neg z1, if_neg z2, if_neg z3]) (S.trans (same_new ha)) upd_same ?_
            exact .nil
def t_rule_by (K : PySem.W.Frag) : TS :=
  (tSeq (tAsg (tM1 Y.rSplit (tVar 0) (tC (.str " "))) (gName 1))
  (tSeq (tIfS (tTest (tOp rLt (tCB (rLen K) (tCons (tVar 1) tNil)) (tC (.int 4))))
  (tRet (tC .non))
  tNext)
  (tSeq (tAsg (tCall (sp_number_by K) [] E0 (tCons (tOp (rIxL K) (tVar 1) (tC (.int 1))) tNil)) (gName 2))
  (tSeq (tAsg (tCall (sp_number_by K) [] E0 (tCons (tOp (rIxL K) (tVar 1) (tC (.int 2))) tNil)) (gName 3))
  (tSeq (tFor (iList K (tCall (sp_worths_by K) [] E0 (tCons (tOp (rIxL K) (tVar 1) (tC (.int 0))) (tCons (tSl (rSlL K) (tVar 1) (tPart (tC (.int 3))) tNoPart) tNil)))) (gName 4)
  (tSeq (tAsg (tCall (sp_rule_of K) [] E0 (tCons (tTup (tCons (tOp (rIxL K) (tVar 1) (tC (.int 0))) (tCons (tVar 2) (tCons (tVar 3) (tCons (tVar 4) tNil))))) tNil)) (gName 5))
  (tIfS (tAnd (tTest (tOp rNotN (tVar 5) (tC .non))) (tTest (tOp rEq (tCall (sp_rule_text K) [] E0 (tCons (tRule K "told" (sp_told K) (tVar 5) tNil) tNil)) (tVar 0))))
  (tRet (tRule K "told" (sp_told K) (tVar 5) tNil))
  tNext)))
  (tRet (tC .non)))))))
theorem pure_rule_by {K : PySem.W.Frag} {x : V} {H : Hp} {Q : VK} {E : XK} (h : sp_rule_by K [x] H Q E) : t_rule_by K { nx := fun _ H' => Q .non H', rt := Q } [some x, none, none, none, none, none] H := by
  obtain ⟨x, e, cf, z, rfl, ok, l, q1, q2⟩ := h
  cases e
  unfold t_rule_by
  walk_at "ss"
  refine g_m1 ?_
  walk_at "ss"
  refine g_isS ?_
  walk_at "ss"
  rw [sp_one]
  refine g_split (by omega) fun p H1 s1 f1 h1 => ?_
  have okw : ∀ x ∈ cutS1 32 z, PyData.strOk x = true ∧ x.length ≤ 640 := fun x hx => ⟨ok_cut (by decide) ok hx, Nat.le_trans (cut_each (by decide) hx) l⟩
  have lw := cut_len (s := 32) (by decide) z
  have back := join_cut (s := 32) (by decide) z
  have isr : ∀ r, byO z = some r → cutS1 32 z = ruleW r := fun r e => by
    obtain ⟨g, e⟩ := by_iff.mp e
    rw [← e, words_rule g]
  generalize hws : cutS1 32 z = ws at h1 okw lw isr
  walk_at "ss"
  rw [List.length_map]
  refine ite_d (fun z0 => ?_) fun z0 => ?_
  · walk_at "ss"
    refine q1 ?_ _ s1
    cases e : byO z with
    | none => rfl
    | some r =>
      have := isr r e
      have g := (by_iff.mp e).1
      have := worth_len g.2.2.2
      rw [isr r e] at z0
      simp [ruleW] at z0
      omega
  obtain ⟨w0, w1, w2, rest, rfl⟩ : ∃ w0 w1 w2 rest, ws = w0 :: w1 :: w2 :: rest := by
    match ws, z0 with
    | [], z0 => simp at z0
    | [_], z0 => simp at z0
    | [_, _], z0 => simp at z0
    | w0 :: w1 :: w2 :: rest, _ => exact ⟨w0, w1, w2, rest, rfl⟩
  have o1 := okw w1 (by simp)
  have o2 := okw w2 (by simp)
  have o3 : ∀ x ∈ rest, PyData.strOk x = true ∧ x.length ≤ 640 := fun x hx => okw x (by simp [hx])
  walk_at "ss"
  refine g_number_by o1.2 fun H2 s2 => ?_
  have h2 := s2 _ _ h1
  walk_at "ss"
  refine g_number_by o2.2 fun H3 s3 => ?_
  have h3 := s3 _ _ h2
  have s03 := s1.trans (s2.trans s3)
  walk_at "ss"
  rename_i p4 hp4
  refine g_worths_by (ws := rest) upd_same (by simp at lw; omega) o3 fun L H5 ys s5 h5 t5 => ?_
  have s35 := (same_new hp4).trans s5
  have h5p := s35 _ _ h3
  have S5 := s03.trans s35
  have yl := tds_len t5
  walk_at "ss"
  have yb : ys.length ≤ 1000 := by
    rw [yl]
    unfold worthsL
    simp at lw
    split
    · split
      · simp
      · split <;> simp
    · split
      · simp
      · split
        · simp
        · split
          · simp; omega
          · simp
  refine for_list (K := K) (a := L) (xs := ys) (fun i σ H' => ∃ v4 v5, σ = [some (.str z), some (.ref p), some (numV (numO w1)), some (numV (numO w2)), v4, v5] ∧ Same H5 H' ∧ ∀ d ∈ (worthsL w0 rest).take i, ∀ r, asRule (.tuple [.str w0, numD (numO w1), numD (numO w2), d]) = some r → ruleS r ≠ z) ⟨_, _, rfl, Same.refl _, by simp⟩ (fun i σ H' _ h => by obtain ⟨_, _, _, h, _⟩ := h; exact SqL.of (h _ _ h5)) ?_ ?_
  · rintro i y σ H6 hi ⟨v4, v5, rfl, s6, no⟩
    obtain ⟨d, hd, td⟩ := tds_get t5 hi
    have h6p := s6 _ _ h5p
    have S6 := S5.trans s6
    have step : (∀ r, asRule (.tuple [.str w0, numD (numO w1), numD (numO w2), d]) = some r → ruleS r ≠ z) → ∀ d ∈ (worthsL w0 rest).take (i + 1), ∀ r, asRule (.tuple [.str w0, numD (numO w1), numD (numO w2), d]) = some r → ruleS r ≠ z := fun h d' hd' => by
      rw [List.take_add_one, hd] at hd'
      rcases List.mem_append.mp hd' with h' | h'
      · exact no d' h'
      · obtain rfl := List.mem_singleton.mp h'
        exact h
    walk_at "ss"
    rename_i p7 hp7
    have td7 := td_new (o := .tup [.str w0, numV (numO w1), numV (numO w2), y]) hp7 (td_same s6 td)
    refine g_rule_of cf (d := .tuple [.str w0, numD (numO w1), numD (numO w2), d]) (Td.at0 (.tup upd_same (.cons (.str _) (.cons (num_td _ _) (.cons (num_td _ _) (.cons td7 .nil)))))) (fun e H8 s8 => ?_) fun r e v H8 s8 hv => ?_
    · walk_at "ss"
      refine ite_f (by decide) ?_
      walk_at "ss"
      exact ⟨_, _, rfl, s6.trans ((same_new hp7).trans s8), step fun r e' => by rw [e] at e'; cases e'⟩
    · obtain ⟨g, -⟩ := asRule_back e
      obtain ⟨pv, dv, wv, rfl, hvo, hvd⟩ := hv
      have hin : InsAt K H8 (.ref pv) r.w (.int r.f) (.int r.l) wv := ⟨pv, dv, rfl, hvo⟩
      walk_at "ss"
      refine ite_t (by rw [decide_eq_false (by intro z; cases z)]; rfl) ?_
      walk_at "ss"
      rename_i p9 H9 s9 f9 h9
      refine g_rule_text (r := r) ⟨p9, wv, rfl, h9, td_same s9 hvd⟩ g fun Ha sa => ?_
      have s9a := s9.trans sa
      have hin : InsAt K Ha (.ref pv) r.w (.int r.f) (.int r.l) wv := ⟨pv, dv, rfl, s9a _ _ hvo⟩
      walk_at "ss"
      rw [str_eq]
      have s6a := (same_new hp7).trans (s8.trans s9a)
      refine ite_d (fun zz => ?_) fun zz => ?_
      · walk_at "ss"
        rename_i pb Hb sb fb hb
        exact q2 r (by_iff.mpr ⟨g, zz⟩) _ _ (S6.trans (s6a.trans sb)) ⟨pb, wv, rfl, hb, td_same (s9a.trans sb) hvd⟩
      · walk_at "ss"
        exact ⟨_, _, rfl, s6.trans s6a, step fun r' e' => by rw [e] at e'; cases e'; exact zz⟩
  · rintro σ H6 ⟨v4, v5, rfl, s6, no⟩
    walk_at "ss"
    refine q1 ?_ _ (S5.trans s6)
    cases e : byO z with
    | none => rfl
    | some r =>
      exfalso
      have er := isr r e
      obtain ⟨g, es⟩ := by_iff.mp e
      unfold ruleW at er
      injection er with e0 er
      injection er with e1 er
      injection er with e2 e3
      subst e0 e1 e2 e3
      rw [yl, List.take_length, worthsL_rule g.2.2.2] at no
      obtain ⟨f0, f1, f2, -⟩ := id g
      refine no r.d (by simp) r ?_ es
      rw [numO_fig, numO_fig]
      show asRule (.tuple [.str r.w.word, .int (r.f.toNat : Nat), .int (r.l.toNat : Nat), r.d]) = some r
      rw [show ((r.f.toNat : Nat) : Int) = r.f by omega, show ((r.l.toNat : Nat) : Int) = r.l by omega]
      exact asRule_told g
/-! YOs: shapes of rules' data. -/
open PySem PySem.Spec PyProof.Rows L2
theorem sh_word (w : Wd) (n : Nat) : Sh n (.str w.word) := sh_str (by cases w <;> decide +kernel) n
theorem sh_fits {w : Wd} {d : PyData} (h : fitsD w d = true) : Sh 1 d := by
  have coins : isCoins d = true → Sh 1 d := fun h => by
    obtain ⟨i, rfl, -⟩ := isCoins_b h
    exact sh_int _ _
  have nights : isNights d = true → Sh 1 d := fun h => by
    obtain ⟨i, rfl, -⟩ := isNights_b h
    exact sh_int _ _
  have bool : isBool d = true → Sh 1 d := fun h => by
    cases d with
    | bool b => exact sh_bl _ _
    | _ => cases h
  have none' : d = .none → Sh 1 d := fun e => by
    subst e
    exact sh_non _
  cases w with
  | price =>
    have h' : (isNone d || isCoins d) = true := h
    rcases Bool.or_eq_true_iff.mp h' with h | h
    · refine none' ?_
      cases d <;> first | rfl | cases h
    · exact coins h
  | come => exact bool h
  | go => exact bool h
  | least => exact nights h
  | most => exact nights h
  | fee => exact coins h
  | deal =>
    rcases isDeal_ex h with e | ⟨m, f, rfl, -⟩
    · exact none' e
    · refine sh_tup fun x hx => ?_
      simp only [List.mem_cons, List.not_mem_nil, or_false] at hx
      rcases hx with rfl | rfl
      · exact sh_int _ _
      · exact sh_int _ _
theorem sh_rule {r : RuleD} (h : r.good) : Sh 2 r.told := sh_tup fun x hx => by
  simp only [List.mem_cons, List.not_mem_nil, or_false] at hx
  rcases hx with rfl | rfl | rfl | rfl
  · exact sh_word _ _
  · exact sh_int _ _
  · exact sh_int _ _
  · exact sh_fits h.2.2.2
/-! YIq: whether data stands in a list of data. -/
open PySem PySem.Spec PyProof.Rows L2
/-- each item of a list is data; how each compares with d -/
def rInT (K : PySem.W.Frag) (neg : Bool) : R2 := fun x y H Q => ∃ (p : Addr) (xs : List V) (ds : List PyData) (d : PyData), y = .ref p ∧ SqL K H p xs ∧ DpAll K H xs ds ∧ Dp K H x d ∧ SeqAt.shaped d = true ∧ d.depth ≤ 60 ∧ (∀ e ∈ ds, SeqAt.shaped e = true) ∧ Q (.bl (neg != ds.any fun e => PyData.eqv e d)) H
theorem reads_each {X : Cx} {pins : List (Addr × Obj)} {σ : L2.St} {H : Hp} {s : Shared} (I : Inv X pins σ H s) : ∀ {xs : List V} {us : List Value} {ds : List PyData}, DpAll X.K H xs ds → Vals xs us → Paired (fun u e => ∃ as, Reads s.heap u e as) us ds
  | _, _, _, .nil, .nil => .nil
  | _, _, _, .cons h t, .cons r q => .cons (Dp.reads I _ _ _ h r) (reads_each I t q)
theorem any_idx {us : List Value} {ds : List PyData} {R : Value → PyData → Prop} (h : Paired R us ds) (f : PyData → Bool) (e : Value → Bool) (he : ∀ u, e u = true ↔ ∃ (i : Nat) (d : PyData), us[i]? = some u ∧ ds[i]? = some d ∧ f d = true) : us.any e = ds.any f := by
  have hl := Paired.length h
  rw [Bool.eq_iff_iff, List.any_eq_true, List.any_eq_true]
  constructor
  · rintro ⟨u, -, hu⟩
    obtain ⟨i, d, -, h2, h3⟩ := (he u).mp hu
    exact ⟨d, List.mem_of_getElem? h2, h3⟩
  · rintro ⟨d, hd, h3⟩
    obtain ⟨i, hi⟩ := List.getElem?_of_mem hd
    have li := (List.getElem?_eq_some_iff.mp hi).1
    have hu : us[i]? = some us[i] := List.getElem?_eq_getElem (by omega)
    exact ⟨us[i], List.getElem_mem _, (he _).mpr ⟨i, d, hu, hi, h3⟩⟩
open Classical in
theorem in_core {X : Cx} {pins : List (Addr × Obj)} {σ : L2.St} {H : Hp} {s : Shared} (hu : X.A.units + 64 < cLine) (I : Inv X pins σ H s) {xs : List V} {ds : List PyData} {d : PyData} {x : V} {v : Value} {us : List Value} (hxs : DpAll X.K H xs ds) (hd : Dp X.K H x d) (sd : SeqAt.shaped d = true) (dd : d.depth ≤ 60) (hs : ∀ e ∈ ds, SeqAt.shaped e = true) (rv : Vals xs us) (rx : RelV x v) :
    ∃ e : Value → Bool, (∀ y ∈ us.toArray, SeqAt.EqAt X.A.in1 s y v (e y)) ∧ us.toArray.any e = ds.any fun q => PyData.eqv q d := by
  have pr := reads_each I hxs rv
  obtain ⟨bs, r2⟩ := Dp.reads I d x v hd rx
  have each : ∀ (i : Nat) (u : Value) (q : PyData), us[i]? = some u → ds[i]? = some q → SeqAt.EqAt X.A.in1 s u v (PyData.eqv q d) := fun i u q h1 h2 => by
    obtain ⟨q', h3, as, r1⟩ := Paired.getL pr h1
    rw [h2] at h3
    cases h3
    exact SeqAt.eqAt_reads q d X.A.in1 s u v as bs r1 r2 (SeqAt.canLay_of_shaped (hs q (List.mem_of_getElem? h2))) (SeqAt.canLay_of_shaped sd) (by
      show X.A.units + 1 + min q.depth d.depth < cLine
      have := Nat.min_le_right q.depth d.depth
      omega)
  refine ⟨fun u => decide (∃ (i : Nat) (q : PyData), us[i]? = some u ∧ ds[i]? = some q ∧ PyData.eqv q d = true), fun y hy => ?_, ?_⟩
  · have hy' : y ∈ us := by simpa using hy
    obtain ⟨j, hj⟩ := List.getElem?_of_mem hy'
    obtain ⟨q, hq, -⟩ := Paired.getL pr hj
    dsimp only
    by_cases z : ∃ (i : Nat) (q : PyData), us[i]? = some y ∧ ds[i]? = some q ∧ PyData.eqv q d = true
    · rw [decide_eq_true z]
      obtain ⟨i, q2, h1, h2, h3⟩ := z
      have := each i y q2 h1 h2
      rw [h3] at this
      exact this
    · rw [decide_eq_false z]
      have := each j y q hj hq
      cases e : PyData.eqv q d with
      | true => exact absurd ⟨j, q, hj, hq, e⟩ z
      | false => rw [e] at this; exact this
  · rw [← any_idx pr (fun q => PyData.eqv q d) (fun u => decide (∃ (i : Nat) (q : PyData), us[i]? = some u ∧ ds[i]? = some q ∧ PyData.eqv q d = true)) fun u => by rw [decide_eq_true_eq]]
    simp
theorem op_inT {X : Cx} (hu : X.A.units + 64 < cLine) : OpR X (compareOp .In) (rInT X.K false) := by
  intro pins s σ H x y v u Q I rx ry h
  obtain ⟨p, xs, ds, d, rfl, hq, hxs, hd, sd, dd, hs, q⟩ := h
  cases ry
  obtain ⟨its, rv, hl, _⟩ := I.list hq
  obtain ⟨e, h1, h2⟩ := in_core hu I hxs hd sd dd hs rv rx
  refine SeqAt.in_listAt e hl.isList h1 ⟨.bl (false != ds.any fun e => PyData.eqv e d), H, I, ?_, q⟩
  show Value.bool _ = Value.bool _
  rw [h2, Bool.false_bne]
/-! YTb: books as texts: shown, and read where nothing is refused. -/
open PySem PySem.Spec PyProof.Rows L2 TL
/-- a book's text -/
def textB (rs : List RuleD) : Str := Txt.join "" (rs.map fun r => ruleS r ++ "\n")
theorem nl_one : ("\n" : Str) = ⟨#[10]⟩ := by decide
theorem joinL_cons {S p : List Nat} {q : List (List Nat)} (h : q ≠ []) : joinL S (p :: q) = p ++ (S ++ joinL S q) := by
  cases q with
  | nil => exact absurd rfl h
  | cons a r => rfl
theorem joinL_nil : ∀ ps : List (List Nat), joinL [] ps = ps.flatten
  | [] => rfl
  | [p] => by simp [joinL]
  | p :: q :: r => by
    show p ++ ([] ++ joinL [] (q :: r)) = _
    rw [joinL_nil (q :: r)]
    simp
theorem joinL_end (s : Nat) : ∀ ps : List (List Nat), joinL [s] (ps ++ [[]]) = (ps.map fun p => p ++ [s]).flatten
  | [] => rfl
  | p :: r => by
    rw [List.cons_append, joinL_cons (by simp), joinL_end s r]
    simp
theorem text_join (ls : List Str) : Txt.join "" (ls.map fun l => l ++ "\n") = Txt.join ⟨#[10]⟩ (ls ++ [("" : Str)]) := by
  refine ext_tl ?_
  rw [join_eq, join_eq, tl_join, tl_join, show tl ("" : Str) = [] by decide, joinL_nil, List.map_append, List.map_map]
  rw [show [("" : Str)].map tl = [[]] by decide, tl_one, joinL_end, List.map_map]
  congr 1
  refine List.map_congr_left fun l _ => ?_
  show tl (l ++ "\n") = tl l ++ [10]
  rw [tl_append, nl_one]
theorem lines_of {ls : List Str} (h : ∀ l ∈ ls, 10 ∉ tl l) : cutS1 10 (Txt.join "" (ls.map fun l => l ++ "\n")) = ls ++ [("" : Str)] := by
  rw [text_join]
  refine cut_join (by decide) (by simp) fun p hp => ?_
  rcases List.mem_append.mp hp with hp | hp
  · exact h p hp
  · rw [List.mem_singleton.mp hp]; decide
theorem words_nl {w : Wd} : 10 ∉ tl w.word := by cases w <;> decide
theorem ruleW_nl {r : RuleD} (g : r.good) {p : Str} (hp : p ∈ ruleW r) : 10 ∉ tl p := by
  unfold ruleW at hp
  simp only [List.mem_cons] at hp
  rcases hp with rfl | rfl | rfl | hp
  · exact words_nl
  · exact fig_free (.inl (by decide))
  · exact fig_free (.inl (by decide))
  · rcases fits_kind g.2.2.2 with ⟨e, -⟩ | ⟨b, e, -⟩ | ⟨i, e, i0, i1, -⟩ | ⟨m, f, e, m0, m1, f0, f1, -⟩
    · rw [e] at hp; rw [List.mem_singleton.mp hp]; decide
    · rw [e] at hp; rw [List.mem_singleton.mp hp]; cases b <;> decide
    · rw [e] at hp; rw [List.mem_singleton.mp hp]; exact fig_free (.inl (by decide))
    · rw [e] at hp
      simp only [worthW, List.mem_cons, List.not_mem_nil, or_false] at hp
      rcases hp with rfl | rfl <;> exact fig_free (.inl (by decide))
theorem joinL_mem {S : List Nat} {c : Nat} : ∀ {ps : List (List Nat)}, c ∈ joinL S ps → c ∈ S ∨ ∃ p ∈ ps, c ∈ p
  | [], h => by cases h
  | [p], h => .inr ⟨p, by simp, h⟩
  | p :: q :: r, h => by
    rcases List.mem_append.mp (show c ∈ p ++ (S ++ joinL S (q :: r)) from h) with h | h
    · exact .inr ⟨p, by simp, h⟩
    · rcases List.mem_append.mp h with h | h
      · exact .inl h
      · rcases joinL_mem h with h | ⟨x, hx, h⟩
        · exact .inl h
        · exact .inr ⟨x, List.mem_cons_of_mem _ hx, h⟩
theorem join_mem {y : Str} {ps : List Str} {c : Nat} (h : c ∈ tl (Txt.join y ps)) : c ∈ tl y ∨ ∃ p ∈ ps, c ∈ tl p := by
  rw [join_eq, tl_join] at h
  rcases joinL_mem h with h | ⟨p, hp, h⟩
  · exact .inl h
  · obtain ⟨q, hq, rfl⟩ := List.mem_map.mp hp
    exact .inr ⟨q, hq, h⟩
theorem rule_nl {r : RuleD} (g : r.good) : 10 ∉ tl (ruleS r) := fun h => by
  rcases join_mem (y := " ") h with h | ⟨p, hp, h⟩
  · exact absurd h (by decide)
  · exact ruleW_nl g hp h
theorem ok_joinT {y : Str} {ps : List Str} (hy : PyData.strOk y = true) (h : ∀ p ∈ ps, PyData.strOk p = true) : PyData.strOk (Txt.join y ps) = true := ok_iff.mpr fun c hc => by
  rcases join_mem hc with h' | ⟨p, hp, h'⟩
  · exact ok_iff.mp hy c h'
  · exact ok_iff.mp (h p hp) c h'
theorem ok_appT {a b : Str} (ha : PyData.strOk a = true) (hb : PyData.strOk b = true) : PyData.strOk (a ++ b) = true := ok_iff.mpr fun c hc => by
  rw [tl_append] at hc
  rcases List.mem_append.mp hc with h | h
  · exact ok_iff.mp ha c h
  · exact ok_iff.mp hb c h
theorem ruleW_ok {r : RuleD} (g : r.good) {p : Str} (hp : p ∈ ruleW r) : PyData.strOk p = true := by
  unfold ruleW at hp
  simp only [List.mem_cons] at hp
  rcases hp with rfl | rfl | rfl | hp
  · cases r.w <;> decide +kernel
  · exact ok_fig _
  · exact ok_fig _
  · rcases fits_kind g.2.2.2 with ⟨e, -⟩ | ⟨b, e, -⟩ | ⟨i, e, i0, i1, -⟩ | ⟨m, f, e, m0, m1, f0, f1, -⟩
    · rw [e] at hp; rw [List.mem_singleton.mp hp]; decide +kernel
    · rw [e] at hp; rw [List.mem_singleton.mp hp]; cases b <;> decide +kernel
    · rw [e] at hp; rw [List.mem_singleton.mp hp]; exact ok_fig _
    · rw [e] at hp
      simp only [worthW, List.mem_cons, List.not_mem_nil, or_false] at hp
      rcases hp with rfl | rfl <;> exact ok_fig _
theorem rule_ok {r : RuleD} (g : r.good) : PyData.strOk (ruleS r) = true := ok_joinT (by decide +kernel) fun p hp => ruleW_ok g hp
theorem join_len (y : Str) (ps : List Str) : (Txt.join y ps).length ≤ (ps.map fun p => p.length + y.length).sum := by
  rw [len_tl, join_eq, tl_join]
  refine Nat.le_trans (joinL_len _ _) ?_
  rw [List.map_map]
  exact Nat.le_refl _
theorem sum_le {α : Type} {f : α → Nat} {k : Nat} : ∀ {l : List α}, (∀ x ∈ l, f x ≤ k) → (l.map f).sum ≤ l.length * k
  | [], _ => by simp
  | a :: l, h => by
    have h1 := h a (by simp)
    have h2 := sum_le (l := l) fun x hx => h x (by simp [hx])
    rw [List.map_cons, List.sum_cons, List.length_cons, Nat.succ_mul]
    omega
theorem text_len {rs : List RuleD} (g : ∀ r ∈ rs, RuleD.good r) : (textB rs).length ≤ rs.length * 61 := by
  refine Nat.le_trans (join_len _ _) ?_
  rw [List.map_map]
  refine sum_le fun r hr => ?_
  show (ruleS r ++ "\n").length + ("" : Str).length ≤ 61
  have := rule_len (g r hr)
  rw [len_app, show ("\n" : Str).length = 1 by decide, show ("" : Str).length = 0 by decide]
  omega
theorem text_ok {rs : List RuleD} (g : ∀ r ∈ rs, RuleD.good r) : PyData.strOk (textB rs) = true := by
  refine ok_joinT (by decide +kernel) fun p hp => ?_
  obtain ⟨r, hr, rfl⟩ := List.mem_map.mp hp
  exact ok_appT (rule_ok (g r hr)) (by decide +kernel)
theorem text_lines {rs : List RuleD} (g : ∀ r ∈ rs, RuleD.good r) : cutS1 10 (textB rs) = rs.map ruleS ++ [("" : Str)] := by
  have := lines_of (ls := rs.map ruleS) fun l hl => by
    obtain ⟨r, hr, rfl⟩ := List.mem_map.mp hl
    exact rule_nl (g r hr)
  rw [List.map_map] at this
  exact this
def sp_show_book (K : PySem.W.Frag) : Sp := Sp1 fun v H Q E => CFR K ∧ CFB K ∧ ∃ (F : List Addr) (rs : List RuleD), BookAt K H F v rs ∧ (∀ r ∈ rs, RuleD.good r) ∧ rs.length ≤ 1000 ∧ ∀ H', Same H H' → Q (.str (textB rs)) H'
theorem g_show_book {K : PySem.W.Frag} {F : List Addr} {v : V} {rs : List RuleD} {H : Hp} {Q : VK} {E : XK} (cf : CFR K) (cb : CFB K) (b : BookAt K H F v rs) (g : ∀ r ∈ rs, RuleD.good r) (l : rs.length ≤ 1000) (q : ∀ H', Same H H' → Q (.str (textB rs)) H') : sp_show_book K ([v] ++ []) H Q E := ⟨_, rfl, cf, cb, F, rs, b, g, l, q⟩
def sp_read_book (K : PySem.W.Frag) : Sp := Sp1 fun v H Q E => CFR K ∧ CFB K ∧ ∃ (rs : List RuleD), v = .str (textB rs) ∧ (∀ r ∈ rs, RuleD.good r) ∧ rs.length ≤ 24 ∧ ∀ v F H', Same H H' → BookAt K H' F v rs → (∀ p ∈ F, Fr H p) → Q v H'
theorem g_read_book {K : PySem.W.Frag} {rs : List RuleD} {H : Hp} {Q : VK} {E : XK} (cf : CFR K) (cb : CFB K) (g : ∀ r ∈ rs, RuleD.good r) (l : rs.length ≤ 24) (q : ∀ v F H', Same H H' → BookAt K H' F v rs → (∀ p ∈ F, Fr H p) → Q v H') : sp_read_book K ([.str (textB rs)] ++ []) H Q E := ⟨_, rfl, cf, cb, rs, rfl, g, l, q⟩
def t_show_book (K : PySem.W.Frag) : TS :=
  (tRet (tM1 (Y.rJoinT K) (tC (.str "")) (tLc (iList K (tMeth (He.ga K "Book") "rules" (sp_Book_rules K) [] E0 (tVar 0) tNil)) (gName 1) tYes (tOp rAddS (tCall (sp_rule_text K) [] E0 (tCons (tVar 1) tNil)) (tC (.str "\n"))) [1])))
theorem pure_show_book {K : PySem.W.Frag} {x : V} {H : Hp} {Q : VK} {E : XK} (h : sp_show_book K [x] H Q E) : t_show_book K { nx := fun _ H' => Q .non H', rt := Q } [some x, none] H := by
  obtain ⟨x, e, cf, cb, F, rs, b, g, l, q⟩ := h
  cases e
  unfold t_show_book
  walk_at "ss"
  refine g_m1 ?_
  walk_at "ss"
  refine g_isS ?_
  walk_at "ss"
  rename_i p H1 ys s1 f1 h1 r1
  have yl := ru_len r1
  refine lc_w (walk_list (K := K) (a := p) (xs := ys)) (fun i => (rs[i]?).map fun r => V.str (ruleS r ++ "\n")) (by omega) (fun H' s => SqL.of (s _ _ h1)) ?_ ?_
  · rintro D i x H6 H7 N hD hi s6 ⟨rfl, hx⟩ hy hn
    obtain ⟨r, hr, rt⟩ := Paired.getL r1 hx
    have hg := g r (List.mem_of_getElem? hr)
    have lr := rule_len hg
    walk_at "ss"
    refine g_rule_text (rt.tk (Same.tk s6)) hg fun H8 s8 => ?_
    walk_at "ss"
    refine ⟨_, _, rfl, rfl, sz_of (by rw [show ("\n" : Str).length = 1 by decide]; omega), ?_⟩
    exact hy _ _ (by rw [hr]; rfl) s8
  · intro D H' hD s' h'
    have e : (List.range ys.length).filterMap (fun i => (rs[i]?).map fun r => V.str (ruleS r ++ "\n")) = (rs.map fun r => ruleS r ++ "\n").map V.str := by
      rw [yl]
      have := range_flt rs fun r => some (V.str (ruleS r ++ "\n"))
      have e2 : (fun (i : Nat) => (rs[i]?).map fun r => V.str (ruleS r ++ "\n")) = fun (i : Nat) => (rs[i]?).bind fun r => some (V.str (ruleS r ++ "\n")) := by
        funext i
        cases rs[i]? <;> rfl
      rw [e2, this, List.map_map]
      simp
    rw [e] at h'
    walk_at "ss"
    refine g_join (SqL.of h') ?_ ?_
    · rw [show ("" : Str).length = 0 by decide]
      have : ((rs.map fun r => ruleS r ++ "\n").map (·.length)).sum ≤ rs.length * 61 := by
        rw [List.map_map]
        refine sum_le fun r hr => ?_
        have := rule_len (g r hr)
        show (ruleS r ++ "\n").length ≤ 61
        rw [len_app, show ("\n" : Str).length = 1 by decide]
        omega
      omega
    · exact q _ (s1.trans s')
def t_read_book (K : PySem.W.Frag) : TS :=
  (tSeq (tIfS (tNot (tB (tCB (rIsi K) (tCons (tVar 0) (tCons (tC (.ty "str")) tNil)))))
  tNever
  tNext)
  (tSeq (tAsg (tM1 Y.rSplit (tVar 0) (tC (.str "\n"))) (gName 1))
  (tSeq (tAsg (tLc (iList K (tSl (rSlL K) (tVar 1) tNoPart (tPart (tUn rNeg (tC (.int 1)))))) (gName 3) tYes (tCall (sp_rule_by K) [] E0 (tCons (tVar 3) tNil)) [3]) (gName 2))
  (tSeq (tIfS (tTest (tOp (Y.rInT K false) (tC .non) (tVar 2)))
  tNever
  tNext)
  (tSeq (tIfS (tTest (tOp rNe (tOp (rIxL K) (tVar 1) (tUn rNeg (tC (.int 1)))) (tC (.str ""))))
  tNever
  tNext)
  (tRet (tMake (He.ga K "Book") (sp_Book_init K) [] E0 (tCons (tVar 2) tNil))))))))
theorem pure_read_book {K : PySem.W.Frag} {x : V} {H : Hp} {Q : VK} {E : XK} (h : sp_read_book K [x] H Q E) : t_read_book K { nx := fun _ H' => Q .non H', rt := Q } [some x, none, none, none] H := by
  obtain ⟨x, e, cf, cb, rs, rfl, g, l, q⟩ := h
  cases e
  unfold t_read_book
  have tl1 := text_len g
  with_reducible refine g_seq ?_
  walk_at "ss"
  refine g_m1 ?_
  walk_at "ss"
  refine g_isS ?_
  walk_at "ss"
  rw [nl_one]
  refine g_split (by omega) fun p H1 s1 f1 h1 => ?_
  rw [text_lines g] at h1
  walk_at "ss"
  rename_i p2 hp2
  rw [cut_init] at *
  have e2 : ((rs.map ruleS ++ [("" : Str)]).map V.str).take (((rs.map ruleS ++ [("" : Str)]).map V.str).length - 1) = (rs.map ruleS).map V.str := by
    rw [List.map_append, List.length_append]
    simp
  rw [e2]
  have s2 := same_new (o := .lst ((rs.map ruleS).map V.str)) hp2
  have h2 : (upd H1 p2 (.lst ((rs.map ruleS).map V.str))) p2 = some (.lst ((rs.map ruleS).map V.str)) := upd_same
  generalize upd H1 p2 (.lst ((rs.map ruleS).map V.str)) = G at s2 h2 ⊢
  have h1 := s2 _ _ h1
  refine lc_r (walk_list (K := K) (a := p2) (xs := (rs.map ruleS).map V.str)) RuT (fun _ _ _ _ k h => h.tk k) (fun i => rs[i]?) (by rw [List.length_map, List.length_map]; omega) (fun H' s => SqL.of (s _ _ h2)) ?_ ?_
  · rintro D i x H6 H7 N hD hi s6 ⟨rfl, hx⟩ hy hn
    obtain ⟨z, rfl, hz⟩ := map_get hx
    rw [List.getElem?_map] at hz
    cases hr : rs[i]? with
    | none => rw [hr] at hz; cases hz
    | some r =>
      rw [hr] at hz hy
      obtain rfl : ruleS r = z := Option.some.inj hz
      have hg := g r (List.mem_of_getElem? hr)
      have by1 := by_rule hg
      have ln := rule_len hg
      walk_at "ss"
      refine g_rule_by cf (rule_ok hg) (by omega) (fun e => by rw [by1] at e; cases e) fun r' e v H8 s8 hv => ?_
      obtain rfl : r = r' := Option.some.inj (by1.symm.trans e)
      walk_at "ss"
      exact hy _ _ _ rfl s8 hv
  · intro D H' ys hD s' h' r'
    have e3 : (List.range ((rs.map ruleS).map V.str).length).filterMap (fun i => rs[i]?) = rs := by
      rw [List.length_map, List.length_map]
      have := range_flt rs fun r => some r
      have e4 : (fun (i : Nat) => rs[i]?) = fun (i : Nat) => (rs[i]?).bind fun r => some r := by
        funext i
        cases rs[i]? <;> rfl
      rw [e4, this]
      simp
    rw [e3] at r'
    have h1 := s' _ _ h1
    walk_at "ss"
    dsimp only [List.set]
    with_reducible refine g_seq ?_
    walk_at "ss"
    refine ⟨D, ys, rs.map RuleD.told, .none, rfl, SqL.of h', dp_rules r', .non, rfl, by simp [PyData.depth], fun e he => ?_, ?_⟩
    · obtain ⟨r, hr, rfl⟩ := List.mem_map.mp he
      exact (sh_rule (g r hr)).ok (by decide)
    · have : ((rs.map RuleD.told).any fun e => PyData.eqv e .none) = false := by
        rw [List.any_eq_false]
        intro e he
        obtain ⟨r, hr, rfl⟩ := List.mem_map.mp he
        simp [RuleD.told, PyData.eqv]
      rw [this]
      walk_at "ss"
      refine ite_f (by decide) ?_
      rw [List.map_append, show ([("" : Str)]).map V.str = [V.str ""] from rfl] at h1
      walk_at "ss"
      with_reducible refine g_seq ?_
      walk_at "ss"
      refine ite_ndt rfl ?_
      walk_at "ss"
      refine g_mkBook cf cb rfl (.inr ⟨D, rfl, SqL.of h'⟩) r' l g fun v F H8 s8 bk f8 => ?_
      have S := s1.trans (s2.trans s')
      exact q v F H8 (S.trans s8) bk fun p hp => fr_of (f8 p hp) S
/-! YBb: bills as data. -/
open PySem PySem.Spec PyProof.Rows L2
def billD (rs : List RuleD) (c g : Int) : PyData := .tuple [.int (sumD rs c g), .list ((rowsL rs c g).map rowD), .int (numI rs .fee c)]
/-! YLo: comprehensions whose items are own lists; kept lists of rules; what is told of the best as data. -/
open PySem PySem.Spec PyProof.Rows L2
theorem lc_ownL {J : It} {n : Nat} {G : Hp → Prop} {Y : Nat → Hp → V → Hp → Prop} (w : Walk J n G Y) {g : TG} {tt : TT} {te : TE} {vs : List Nat} {σ : L2.St} {H1 : Hp} {Qf : Addr → Hp → Prop} {β : Type} (R : Addr → Hp → V → β → Prop) (hS : ∀ D G G' v b, Same G G' → R D G v b → R D G' v b) (hP : ∀ D G zs o v b, G D = some (.lst zs) → R D G v b → R D (upd G D o) v b) (f : Nat → Option β) (hn : n < 100000) (hG : ∀ H, Same H1 H → G H)
    (hs : ∀ (D : Addr) i x H H' (N : Hp → Prop), Fr H1 D → i < n → Same H1 H → (∃ acc, H D = some (.lst acc)) → Y i H x H' → (∀ y b H4, f i = some b → Same H H4 → R D H4 y b → ∃ acc, H4 D = some (.lst acc) ∧ acc.length < sizeLine ∧ N (upd H4 D (.lst (acc ++ [y])))) → (∀ H4, f i = none → Same H H4 → N H4) →
      g x (wipe σ vs) H' fun σ2 H2 => wipe σ2 vs = wipe σ vs ∧ tt σ2 H2 fun b H3 =>
        if b = true then te σ2 H3 fun y H4 => ∃ acc, H4 D = some (.lst acc) ∧ acc.length < sizeLine ∧ N (upd H4 D (.lst (acc ++ [y]))) else N H3)
    (hd : ∀ D H' ys, Fr H1 D → Same H1 H' → H' D = some (.lst ys) → Paired (R D H') ys ((List.range n).filterMap f) → Qf D H') :
    ∀ D, Fr H1 D → ∃ W : Nat → Nat → Hp → Prop, (∃ m, W 0 m (upd H1 D (.lst []))) ∧ ∀ i m H, W i m H →
      (J.stop i H ∧ Qf D H) ∨ (J.go i H ∧ ∃ Nx : Hp → Prop, (∀ H', Nx H' → ∃ m', m' < m ∧ W (i + 1) m' H') ∧ ∀ x H', J.yld i H x H' → g x (wipe σ vs) H' fun σ2 H2 => wipe σ2 vs = wipe σ vs ∧ tt σ2 H2 fun b H3 =>
        if b = true then te σ2 H3 fun y H4 => ∃ acc, H4 D = some (.lst acc) ∧ acc.length < sizeLine ∧ Nx (upd H4 D (.lst (acc ++ [y]))) else Nx H3) := fun D hD => by
  refine lc_it w (fun i H => Same H1 H ∧ ∃ acc, H D = some (.lst acc) ∧ Paired (R D H) acc ((List.range i).filterMap f)) ⟨same_new hD, [], upd_same, .nil⟩ (fun i H _ h => hG H h.1) (fun i x H H' hi ⟨sm, acc, ha, hp⟩ y => ?_) fun H ⟨sm, acc, ha, hp⟩ => hd D H acc hD sm ha hp
  have hlen : acc.length ≤ i := by
    rw [Paired.length hp]
    exact Nat.le_trans (List.length_filterMap_le ..) (by rw [List.length_range]; omega)
  refine hs D i x H H' _ hD hi sm ⟨acc, ha⟩ y (fun y b H4 hb s r => ⟨acc, s _ _ ha, by rw [sizeLine_eq]; omega, sm_own hD (sm.trans s), acc ++ [y], upd_same, ?_⟩) fun H4 hb s => ⟨sm.trans s, acc, s _ _ ha, ?_⟩
  · rw [List.range_succ, List.filterMap_append]
    refine Paired.app (Paired.mapP hp fun _ _ q => hP _ _ _ _ _ _ (s _ _ ha) (hS _ _ _ _ _ s q)) ?_
    simp only [List.filterMap_cons, hb, List.filterMap_nil]
    exact .cons (hP _ _ _ _ _ _ (s _ _ ha) r) .nil
  · rw [List.range_succ, List.filterMap_append]
    simp only [List.filterMap_cons, hb, List.filterMap_nil, List.append_nil]
    exact Paired.mapP hp fun _ _ q => hS _ _ _ _ _ s q
/-- a list of rules' tuples stands at v, apart from D -/
def RowAt (D : List Addr) (H : Hp) (v : V) (rs : List RuleD) : Prop := ∃ q xs, v = .ref q ∧ q ∉ D ∧ H q = some (.lst xs) ∧ Rus H xs rs
theorem RowAt.same {D : List Addr} {H H' : Hp} {v : V} {rs : List RuleD} (s : Same H H') (h : RowAt D H v rs) : RowAt D H' v rs := let ⟨q, xs, e, n, h1, h2⟩ := h; ⟨q, xs, e, n, s _ _ h1, ru_same s h2⟩
theorem RowAt.kp {t b s : Addr} {D : List Addr} {H H' : Hp} {v : V} {rs : List RuleD} (k : Kp [t, b] H H') (T : Tape H t b s) (hD : ∀ p ∈ [t, b], p ∈ D) (h : RowAt D H v rs) : RowAt D H' v rs := let ⟨q, xs, e, n, h1, h2⟩ := h; ⟨q, xs, e, n, k _ _ h1 (fun z => n (hD _ z)), ru_kp k T h2⟩
theorem RowAt.put {D : List Addr} {H : Hp} {p : Addr} {zs : List V} {o : HO} {v : V} {rs : List RuleD} (hp : H p = some (.lst zs)) (hD : p ∈ D) (h : RowAt D H v rs) : RowAt D (upd H p o) v rs := let ⟨q, xs, e, n, h1, h2⟩ := h; ⟨q, xs, e, n, at_ne (fun z => n (z ▸ hD)) h1, ru_put hp h2⟩
theorem dp_rows {K : PySem.W.Frag} {D : List Addr} {H : Hp} : ∀ {vs : List V} {bs : List (List RuleD)}, Paired (RowAt D H) vs bs → DpAll K H vs (bs.map fun rs => .list (rs.map RuleD.told))
  | _, _, .nil => .nil
  | _, _, .cons r t => by
    obtain ⟨q, xs, rfl, -, h1, h2⟩ := r
    exact .cons (dp_row (SqL.of h1) h2) (dp_rows t)
def rowsD (bs : List (List RuleD)) : PyData := .list (bs.map fun rs => .list (rs.map RuleD.told))
theorem sho_rows {bs : List (List RuleD)} (gd : GoodB bs) (sm : ∀ rs ∈ bs, rs.length ≤ 24) (few : bs.length ≤ 10) : Sho 4 400000 (rowsD bs) := (sho_lst (k := 3) (m := 30000) fun x hx => by
  obtain ⟨rs, hrs, rfl⟩ := List.mem_map.mp hx
  have := sm rs hrs
  refine (sho_lst (k := 2) (m := 1000) fun y hy => ?_).mono (Nat.le_refl _) (by rw [List.length_map]; omega)
  obtain ⟨r, hr, rfl⟩ := List.mem_map.mp hy
  exact sho_told (gd rs hrs r hr)).mono (Nat.le_refl _) (by rw [List.length_map]; omega)
theorem g_reprRows {K : PySem.W.Frag} {D : List Addr} {H : Hp} {Q : VK} {p : Addr} {vs : List V} {bs : List (List RuleD)} (h : H p = some (.lst vs)) (r : Paired (RowAt D H) vs bs) (gd : GoodB bs) (sm : ∀ rs ∈ bs, rs.length ≤ 24) (few : bs.length ≤ 10) (q : Q (.str (rowsD bs).shown) H) : rReprD K [.ref p] H Q :=
  g_repr (.lst (SqL.of h) (dp_rows r)) (sho_rows gd sm few) (by decide) (by decide) q
/-! YDk: comprehensions over a range with draws: some of its numbers kept; things that are own lists. -/
open PySem PySem.Spec PyProof.Rows L2
/-! YBt: what best tells, apart from the tape. -/
open PySem PySem.Spec PyProof.Rows L2
/-- what best tells, apart from the tape -/
def BestT (t b : Addr) (H : Hp) (v : V) (bs : List (List RuleD)) (c g : Int) : Prop :=
  (offB bs c g = true ∧ ∃ p q, v = .ref p ∧ q ∉ [t, b] ∧ H p = some (.tup [.str "off", .ref q]) ∧ H q = some (.lst ((shutL bs c g).map V.int))) ∨
  (offB bs c g = false ∧ ∃ p q r ys, v = .ref p ∧ q ∉ [t, b] ∧ r ∉ [t, b] ∧ H p = some (.tup [.str "had", .int (coinsL bs c g), .ref q, .ref r]) ∧ H q = some (.lst ys) ∧ Tds H ys ((cutL bs c g).map ptD) ∧ H r = some (.lst ((paperL bs c g).map V.int)))
theorem BestT.kp {t b s : Addr} {H H' : Hp} {v : V} {bs : List (List RuleD)} {c g : Int} (k : Kp [t, b] H H') (T : Tape H t b s) (h : BestT t b H v bs c g) : BestT t b H' v bs c g := by
  rcases h with ⟨o, p, q, e, n, h1, h2⟩ | ⟨o, p, q, r, ys, e, n1, n2, h1, h2, h3, h4⟩
  · exact .inl ⟨o, p, q, e, n, at_tk k T h1, k _ _ h2 n⟩
  · exact .inr ⟨o, p, q, r, ys, e, n1, n2, at_tk k T h1, k _ _ h2 n1, tds_kp k T h3, k _ _ h4 n2⟩
/-! YBo: a row of books, no tape in sight. -/
open PySem PySem.Spec PyProof.Rows L2
structure BkL (K : PySem.W.Frag) (H : Hp) (q : Addr) (vs : List V) (bs : List (List RuleD)) : Prop where
  seq : H q = some (.lst vs)
  bks : Paired (BkAt K H) vs bs
  good : GoodB bs
  few : bs.length ≤ 10
  small : ∀ rs ∈ bs, rs.length ≤ 24
theorem BkO.ofF {K : PySem.W.Frag} {D : List Addr} {H : Hp} {F : List Addr} {v : V} {rs : List RuleD} (h : BookAt K H F v rs) (n : ∀ p ∈ F, p ∉ D) : BkO K D H v rs := ⟨F, h, n⟩
/-! YTh: a thing told of a stay, with its data. -/
open PySem PySem.Spec PyProof.Rows L2
theorem ats_ofI {H : Hp} {L : List Addr} : ∀ ns : List Int, Ats H L (ns.map V.int) (ns.map PyData.int)
  | [] => .nil
  | n :: ns => .cons (.int n) (ats_ofI ns)
/-- what best tells, or a thing made: with its data -/
def ThingAt (H : Hp) (v : V) (d : PyData) : Prop :=
  (∃ (p q : Addr) (ns : List Int), v = .ref p ∧ H p = some (.tup [.str "off", .ref q]) ∧ H q = some (.lst (ns.map V.int)) ∧ ns.length ≤ 20 ∧ d = .tuple [.str "off", .list (ns.map .int)]) ∨
  (∃ (p q r : Addr) (ys : List V) (x : Int) (L : List Pt) (ns : List Int), v = .ref p ∧ H p = some (.tup [.str "had", .int x, .ref q, .ref r]) ∧ H q = some (.lst ys) ∧ Tds H ys (L.map ptD) ∧ L.length ≤ 14 ∧ H r = some (.lst (ns.map V.int)) ∧ ns.length ≤ 14 ∧ d = .tuple [.str "had", .int x, .list (L.map ptD), .list (ns.map .int)])
theorem ThingAt.at {H : Hp} {v : V} {d : PyData} (h : ThingAt H v d) : At H [] v d := by
  rcases h with ⟨p, q, ns, rfl, h1, h2, l, rfl⟩ | ⟨p, q, r, ys, x, L, ns, rfl, h1, h2, h3, l, h4, l2, rfl⟩
  · exact at_tup0 h1 (.cons (.str _) (.cons (at_lst0 h2 (ats_ofI _)) .nil))
  · exact at_tup0 h1 (.cons (.str _) (.cons (.int _) (.cons (at_lst0 h2 (h3.at (by simp))) (.cons (at_lst0 h4 (ats_ofI _)) .nil))))
theorem ThingAt.wide {H : Hp} {v : V} {d : PyData} (h : ThingAt H v d) : WideT d := by
  rcases h with ⟨p, q, ns, rfl, h1, h2, l, rfl⟩ | ⟨p, q, r, ys, x, L, ns, rfl, h1, h2, h3, l, h4, l2, rfl⟩
  · refine ⟨by show 2 ≤ 1000; decide, fun e he => ?_⟩
    simp only [List.mem_cons, List.not_mem_nil, or_false] at he
    rcases he with rfl | rfl
    · trivial
    · show (ns.map PyData.int).length ≤ 1000
      rw [List.length_map]
      omega
  · refine ⟨by show 4 ≤ 1000; decide, fun e he => ?_⟩
    simp only [List.mem_cons, List.not_mem_nil, or_false] at he
    rcases he with rfl | rfl | rfl | rfl
    · trivial
    · trivial
    · show (L.map ptD).length ≤ 1000
      rw [List.length_map]
      omega
    · show (ns.map PyData.int).length ≤ 1000
      rw [List.length_map]
      omega
theorem thing_off {H : Hp} {p q : Addr} {ns : List Int} (h1 : H p = some (.tup [.str "off", .ref q])) (h2 : H q = some (.lst (ns.map V.int))) (l : ns.length ≤ 20) : ThingAt H (.ref p) (.tuple [.str "off", .list (ns.map .int)]) :=
  .inl ⟨p, q, ns, rfl, h1, h2, l, rfl⟩
theorem thing_had {H : Hp} {p q r : Addr} {ys : List V} {x : Int} {L : List Pt} {ns : List Int} (h1 : H p = some (.tup [.str "had", .int x, .ref q, .ref r])) (h2 : H q = some (.lst ys)) (h3 : Tds H ys (L.map ptD)) (l : L.length ≤ 14) (h4 : H r = some (.lst (ns.map V.int))) (l2 : ns.length ≤ 14) : ThingAt H (.ref p) (.tuple [.str "had", .int x, .list (L.map ptD), .list (ns.map .int)]) :=
  .inr ⟨p, q, r, ys, x, L, ns, rfl, h1, h2, h3, l, h4, l2, rfl⟩
theorem BestAt.offThing {H : Hp} {v : V} {bs : List (List RuleD)} {c g : Int} (h : BestAt H v bs c g) (ho : offB bs c g = true) (st : StayB c g) : ThingAt H v (.tuple [.str "off", .list ((shutL bs c g).map .int)]) := by
  rcases h with ⟨o, p, q, rfl, h1, h2⟩ | ⟨o, -⟩
  · exact thing_off h1 h2 (by have := shut_len bs st.2.2.1; omega)
  · rw [ho] at o; cases o
theorem BestAt.hadThing {H : Hp} {v : V} {bs : List (List RuleD)} {c g : Int} (h : BestAt H v bs c g) (ho : offB bs c g = false) (st : StayB c g) : ThingAt H v (.tuple [.str "had", .int (coinsL bs c g), .list ((cutL bs c g).map ptD), .list ((paperL bs c g).map .int)]) := by
  obtain ⟨c0, c1, c2, c3⟩ := st
  rcases h with ⟨o, -⟩ | ⟨o, p, q, r, ys, rfl, h1, h2, h3, h4⟩
  · rw [ho] at o; cases o
  · have ll := cut_small (cut_ok (show c ≤ g by omega) o).1
    have pl : (paperL bs c g).length = (g - c).toNat := paper_len _ _ _
    exact thing_had h1 h2 h3 (by omega) h4 (by omega)
/-! YRl: lists of rules in the heap (second family). -/
open PySem PySem.Spec PyProof.Rows L2
/-- a list of rules' tuples stands at v -/
def RlAt (H : Hp) (v : V) (rs : List RuleD) : Prop := ∃ q xs, v = .ref q ∧ H q = some (.lst xs) ∧ Rus H xs rs
/-! k93: from text to paper. -/
open PySem PySem.Spec PyProof.Rows L2 TL
def sp_law (K : PySem.W.Frag) : Sp := Sp1 fun x H Q E => CFR K ∧ CFB K ∧ ∃ (a : Addr) (ns : List Int), x = .ref a ∧ SqL K H a (ns.map V.int) ∧ ns.length ≤ 63 ∧ ∀ H', Q (.bl true) H'
theorem map_get3 {α β : Type} {f : α → β} {l : List α} {i : Nat} {x : β} (h : (l.map f)[i]? = some x) : ∃ a, x = f a ∧ l[i]? = some a := by
  rw [List.getElem?_map] at h
  cases e : l[i]? with
  | none => rw [e] at h; cases h
  | some a => rw [e] at h; exact ⟨a, (Option.some.inj h).symm, rfl⟩
theorem flt_some {α β : Type} (l : List α) (f : α → β) : (List.range l.length).filterMap (fun i => (l[i]?).map f) = l.map f := by
  have := range_flt l fun a => some (f a)
  have e : (fun (i : Nat) => (l[i]?).map f) = fun (i : Nat) => (l[i]?).bind fun a => some (f a) := by
    funext i
    cases l[i]? <;> rfl
  rw [e, this]
  simp
theorem text_app (a b : List RuleD) : textB a ++ textB b = textB (a ++ b) := by
  refine ext_tl ?_
  unfold textB
  rw [tl_append, join_eq, join_eq, join_eq, tl_join, tl_join, tl_join, show tl "" = [] from rfl, joinL_nil, joinL_nil, joinL_nil, List.map_append, List.map_append, List.flatten_append]
theorem alk_refl (bs : List (List RuleD)) (c g : Int) : AlkL bs bs c g := ⟨rfl, fun k r s h1 h2 => by rw [h1] at h2; cases h2; exact fun _ _ _ _ _ => rfl⟩
theorem cut_tt {t : TT} {σ : L2.St} {H : Hp} {k : Bool → Hp → Prop} (b : Bool) (h : ∀ k' : Bool → Hp → Prop, k' b H → t σ H k') (q : k b H) : t σ H k := h _ q
/-- what best tells is a thing, with its data -/
theorem BestAt.thingD {H : Hp} {v : V} {bs : List (List RuleD)} {c g : Int} (h : BestAt H v bs c g) (st : StayB c g) : ThingAt H v (bstD bs c g) := by
  unfold bstD
  cases o : offB bs c g with
  | true => exact h.offThing o st
  | false => exact h.hadThing o st
theorem sh_bar (p : Wd × Int) (n : Nat) : Sh (n + 1) (barD p) := sh_tup fun d hd => by
  simp only [List.mem_cons, List.not_mem_nil, or_false] at hd
  rcases hd with rfl | rfl
  · exact sh_str (by cases p.1 <;> decide +kernel) n
  · exact sh_int _ _
theorem sh_barL (l : List (Wd × Int)) : Sh 2 (.list (l.map barD)) := sh_lst fun d hd => by
  obtain ⟨p, -, rfl⟩ := List.mem_map.mp hd
  exact sh_bar p 0
theorem bar_sh (bs : List (List RuleD)) (c g : Int) : Sh 3 (.list (bs.map fun rs => PyData.list ((barsL rs c g).map barD))) := sh_lst fun d hd => by
  obtain ⟨p, -, rfl⟩ := List.mem_map.mp hd
  exact sh_barL _
/-- a list of bars stands at v, apart from D -/
def BarR (D : List Addr) (H : Hp) (v : V) (d : PyData) : Prop := ∃ q xs ds, v = .ref q ∧ q ∉ D ∧ H q = some (.lst xs) ∧ d = .list ds ∧ Tds H xs ds
theorem BarR.same {D : List Addr} {H H' : Hp} {v : V} {d : PyData} (s : Same H H') (h : BarR D H v d) : BarR D H' v d := let ⟨q, xs, ds, e, n, h1, h2, h3⟩ := h; ⟨q, xs, ds, e, n, s _ _ h1, h2, tds_same s h3⟩
theorem BarR.put {D : List Addr} {H : Hp} {p : Addr} {zs : List V} {o : HO} {v : V} {d : PyData} (hp : H p = some (.lst zs)) (hD : p ∈ D) (h : BarR D H v d) : BarR D (upd H p o) v d := let ⟨q, xs, ds, e, n, h1, h2, h3⟩ := h; ⟨q, xs, ds, e, n, at_ne (fun z => n (z ▸ hD)) h1, h2, tds_put hp h3⟩
theorem BarR.dp {K : PySem.W.Frag} {D : List Addr} {H : Hp} {v : V} {d : PyData} (h : BarR D H v d) : Dp K H v d := by
  obtain ⟨q, xs, ds, rfl, n, h1, rfl, h3⟩ := h
  exact .lst (SqL.of h1) (tds_dp h3)
theorem bar_dps {K : PySem.W.Frag} {D : List Addr} {H : Hp} : ∀ {vs : List V} {ds : List PyData}, Paired (BarR D H) vs ds → DpAll K H vs ds
  | _, _, .nil => .nil
  | _, _, .cons h t => .cons h.dp (bar_dps t)
theorem at_end {xs : List V} {v : V} (h : xs[xs.length - 1]? = some v) : atI xs (-1) = some v := by
  have ne : xs ≠ [] := by rintro rfl; cases h
  obtain ⟨ys, y, rfl⟩ : ∃ ys y, xs = ys ++ [y] := ⟨_, _, (List.dropLast_concat_getLast ne).symm⟩
  rw [at_last]
  simpa using h
theorem texts_map (bs : List (List RuleD)) : (bs.map fun rs => V.str (textB rs)) = (bs.map textB).map V.str := by
  rw [List.map_map]
  rfl
def t_law (K : PySem.W.Frag) : TS :=
  (tSeq (tAsg (tCall (sp_Ltape K) [] E0 (tCons (tVar 0) tNil)) (gName 1))
  (tSeq (tAsg (tOp rAdd (tC (.int 2)) (tCall (sp_Ldraw K) [] E0 (tCons (tVar 1) (tCons (tC (.int 7)) tNil)))) (gName 2))
  (tSeq (tAsg (tOp (rIxL K) (tLst (tCons (tC (.int 1)) (tCons (tOp rSub (tOp rPow (tC (.int 10)) (tC (.int 6))) (tC (.int 20))) (tCons (tOp rAdd (tC (.int 1)) (tCall (sp_Ldraw K) [] E0 (tCons (tVar 1) (tCons (tOp rSub (tOp rPow (tC (.int 10)) (tC (.int 6))) (tC (.int 30))) tNil)))) tNil)))) (tCall (sp_Ldraw K) [] E0 (tCons (tVar 1) (tCons (tC (.int 3)) tNil)))) (gName 3))
  (tSeq (tAsg (tCall (sp_Lbooks K) [] E0 (tCons (tVar 1) (tCons (tVar 3) (tCons (tVar 2) tNil)))) (gName 4))
  (tSeq (tAsg (tLc (iList K (tVar 4)) (gName 12) tYes (tCall (sp_show_book K) [] E0 (tCons (tVar 12) tNil)) [12]) (gName 5))
  (tSeq (tAsg (tLc (iList K (tVar 5)) (gName 13) tYes (tCall (sp_read_book K) [] E0 (tCons (tVar 13) tNil)) [13]) (gName 6))
  (tSeq (tIfS (tTest (tOp (rNeD K) (tLc (iList K (tVar 6)) (gName 12) tYes (tCall (sp_show_book K) [] E0 (tCons (tVar 12) tNil)) [12]) (tVar 5)))
  (tRet (tC (.bl false)))
  tNext)
  (tSeq (tIfS (tTest (tOp rNe (tCB (Y.rReprD K) (tCons (tLc (iList K (tVar 6)) (gName 12) tYes (tMeth (He.ga K "Book") "rules" (sp_Book_rules K) [] E0 (tVar 12) tNil) [12]) tNil)) (tCB (Y.rReprD K) (tCons (tLc (iList K (tVar 4)) (gName 12) tYes (tMeth (He.ga K "Book") "rules" (sp_Book_rules K) [] E0 (tVar 12) tNil) [12]) tNil))))
  (tRet (tC (.bl false)))
  tNext)
  (tSeq (tFor (iRng1 (tCons (tC (.int 2)) tNil)) (gName 7)
  (tSeq (tAsg (tCall (sp_Lstay K) [] E0 (tCons (tVar 1) (tCons (tVar 3) (tCons (tVar 2) tNil)))) (gName 8))
  (tSeq (tAsg (tCall (sp_best K) [] E0 (tCons (tCB (rListOf K) (tCons (tVar 4) tNil)) (tCons (tVar 8) tNil))) (gName 9))
  (tSeq (tAsg (tCall (sp_best K) [] E0 (tCons (tCB (rListOf K) (tCons (tVar 6) tNil)) (tCons (tVar 8) tNil))) (gName 10))
  (tSeq (tIfS (tOr (tTest (tOp rNe (tOp (rIxT K) (tVar 9) (tC (.int 0))) (tOp (rIxT K) (tVar 10) (tC (.int 0))))) (tAnd (tTest (tOp rEq (tOp (rIxT K) (tVar 9) (tC (.int 0))) (tC (.str "had")))) (tTest (tOp rNe (tOp (rIxT K) (tVar 9) (tC (.int 1))) (tOp (rIxT K) (tVar 10) (tC (.int 1)))))))
  (tRet (tC (.bl false)))
  tNext)
  (tSeq (tIfS (tOr (tTest (tOp Y.rNotB (tCall (sp_lets_by K) [] E0 (tCons (tCB (rListOf K) (tCons (tVar 6) tNil)) (tCons (tVar 8) (tCons (tVar 9) tNil)))) (tC (.bl true)))) (tTest (tOp Y.rNotB (tCall (sp_lets_by K) [] E0 (tCons (tCB (rListOf K) (tCons (tVar 4) tNil)) (tCons (tVar 8) (tCons (tVar 10) tNil)))) (tC (.bl true)))))
  (tRet (tC (.bl false)))
  tNext)
  (tIfS (tTest (tOp (rNeD K) (tLc (iList K (tVar 4)) (gName 12) tYes (tCall (sp_bars K) [] E0 (tCons (tVar 12) (tCons (tVar 8) tNil))) [12]) (tLc (iList K (tVar 6)) (gName 12) tYes (tCall (sp_bars K) [] E0 (tCons (tVar 12) (tCons (tVar 8) tNil))) [12])))
  (tRet (tC (.bl false)))
  tNext)))))))
  (tSeq (tIfS (tTest (tOp rGt (tOp rAdd (tCB (rLen K) (tCons (tMeth (He.ga K "Book") "rules" (sp_Book_rules K) [] E0 (tOp (rIxL K) (tVar 4) (tC (.int 0))) tNil) tNil)) (tCB (rLen K) (tCons (tMeth (He.ga K "Book") "rules" (sp_Book_rules K) [] E0 (tOp (rIxL K) (tVar 4) (tUn rNeg (tC (.int 1)))) tNil) tNil))) (tC (.int 24))))
  (tRet (tC (.bl true)))
  tNext)
  (tSeq (tAsg (tCall (sp_read_book K) [] E0 (tCons (tOp rAddS (tOp (rIxL K) (tVar 5) (tC (.int 0))) (tOp (rIxL K) (tVar 5) (tUn rNeg (tC (.int 1))))) tNil)) (gName 11))
  (tRet (tOp rEq (tCB (Y.rReprD K) (tCons (tMeth (He.ga K "Book") "rules" (sp_Book_rules K) [] E0 (tVar 11) tNil) tNil)) (tCB (Y.rReprD K) (tCons (tMeth (He.ga K "Book") "rules" (sp_Book_rules K) [] E0 (tCall (sp_laid K) [] E0 (tCons (tOp (rIxL K) (tVar 4) (tC (.int 0))) (tCons (tOp (rIxL K) (tVar 4) (tUn rNeg (tC (.int 1)))) tNil))) tNil) tNil)))))))))))))))
theorem pure_law {K : PySem.W.Frag} {x : V} {H : Hp} {Q : VK} {E : XK} (h : sp_law K [x] H Q E) : t_law K { nx := fun _ H' => Q .non H', rt := Q } ([some x] ++ List.replicate 13 none) H := by
  obtain ⟨x, e, cf, cb, a, ns, rfl, hS, hl, q⟩ := h
  cases e
  dsimp only [List.replicate, List.append, List.cons_append, List.nil_append]
  unfold t_law
  walk_at "ss"
  rename_i t b s H1 s1 ft fb fz T1 d4 H4 d40 d41 T4 k4 d5 H5 d50 d51 T5 k5 p2 hp2 d6 H6 d60 d61 T6 k6 base hbase
  have hbd : 1 ≤ base ∧ base ≤ 999980 := by omega
  obtain ⟨dn, hdn⟩ : ∃ dn, dn = 2 + d4 := ⟨_, rfl⟩
  rw [← hdn]
  have hdn' : 2 ≤ dn ∧ dn ≤ 8 := by omega
  clear hS hl s1 ft fb fz T1 T4 k4 T5 k5 hp2 k6 hbase hdn d40 d41 d50 d51 d60 d61
  refine g_Lbooks cf cb T6 (by omega) fun bq vs bs H7 T7 k7 f7 B7 l0 l1 => ?_
  clear k7 T6 f7
  have hsq := B7.seq
  have hvl := Paired.length B7.bks
  walk_at "ss"
  refine lc_w (walk_list (K := K) (a := bq) (xs := vs)) (fun i => (bs[i]?).map fun rs => V.str (textB rs)) (by omega) (fun H' s => SqL.of (s _ _ hsq)) ?_ ?_
  · rintro D i x H2 H3 N hD hi s2 ⟨rfl, hx⟩ hy hn
    obtain ⟨rs, hrs, F, hbk, hF⟩ := Paired.getL (B7.same s2).bks hx
    have sm := B7.small rs (List.mem_of_getElem? hrs)
    walk_at "ss"
    refine g_show_book cf cb hbk (B7.good rs (List.mem_of_getElem? hrs)) (by omega) fun H4 s4 => ?_
    walk_at "ss"
    exact hy _ _ (by rw [hrs]; rfl) s4
  intro D8 H8 hD8 s8 h8
  rw [hvl, flt_some bs fun rs => V.str (textB rs), texts_map] at h8
  have B8 := B7.same s8
  have T8 := tape_same s8 T7
  have nD8 : D8 ∉ [t, b] := ni_tape hD8 T7
  clear hD8 s8 B7 T7 hsq
  walk_at "ss"
  refine lc_ownL (fun D G v rs => BkO K [t, b, D] G v rs) (fun _ _ _ _ _ s h => h.same s) (fun _ _ _ _ _ _ e h => h.put e (by simp)) (fun i => bs[i]?) (w := walk_list (K := K) (a := D8) (xs := (bs.map textB).map V.str)) (by rw [List.length_map, List.length_map]; omega) (fun H' s => SqL.of (s _ _ h8)) ?_ ?_
  · rintro D i x H2 H3 N hD hi s2 ⟨acc, hacc⟩ ⟨rfl, hx⟩ hy hn
    rw [← texts_map] at hx
    obtain ⟨rs, rfl, hrs⟩ := map_get3 hx
    have sm := B8.small rs (List.mem_of_getElem? hrs)
    walk_at "ss"
    refine g_read_book cf cb (B8.good rs (List.mem_of_getElem? hrs)) (by omega) fun v F H4 s4 bk f4 => ?_
    walk_at "ss"
    refine hy _ rs _ hrs s4 (BkO.ofF bk fun p hp z => ?_)
    have fr := f4 p hp
    have nt := ni_tape fr (tape_same s2 T8)
    simp only [List.mem_cons, List.not_mem_nil, or_false] at z nt
    rcases z with z | z | z
    · exact nt (.inl z)
    · exact nt (.inr z)
    · rw [z] at fr
      rw [fr] at hacc
      cases hacc
  intro D9 H9 rv hD9 s9 h9 r9
  rw [List.length_map, List.length_map, range_get] at r9
  have B9 := B8.same s9
  have T9 := tape_same s9 T8
  have h8 := s9 _ _ h8
  have R9 : Bks K t b H9 D9 rv bs := ⟨h9, ni_tape hD9 T8, Paired.mapP r9 fun _ _ x => x.less (by simp), B8.good, B8.few, B8.small⟩
  clear r9 h9 hD9 s9 B8 T8
  have hsq := R9.seq
  have hrl := Paired.length R9.bks
  have tok : ∀ x ∈ bs.map textB, PyData.strOk x = true := fun x hx => by
    obtain ⟨rs, hrs, rfl⟩ := List.mem_map.mp hx
    exact text_ok (B9.good rs hrs)
  walk_at "ss"
  refine lc_w (walk_list (K := K) (a := D9) (xs := rv)) (fun i => (bs[i]?).map fun rs => V.str (textB rs)) (by omega) (fun H' s => SqL.of (s _ _ hsq)) ?_ ?_
  · rintro D i x H2 H3 N hD hi s2 ⟨rfl, hx⟩ hy hn
    obtain ⟨rs, hrs, F, hbk, hF⟩ := Paired.getL (R9.same s2).bks hx
    have sm := R9.small rs (List.mem_of_getElem? hrs)
    walk_at "ss"
    refine g_show_book cf cb hbk (R9.good rs (List.mem_of_getElem? hrs)) (by omega) fun H4 s4 => ?_
    walk_at "ss"
    exact hy _ _ (by rw [hrs]; rfl) s4
  intro Da Ha hDa sa ha
  rw [hrl, flt_some bs fun rs => V.str (textB rs), texts_map] at ha
  walk_at "ss"
  refine g_neD_same (.lst (SqL.of ha) (dp_strs _)) (.lst (SqL.of (sa _ _ h8)) (dp_strs _)) (sh_strs tok) (by decide) ?_
  walk_at "ss"
  have h8 := sa _ _ h8
  have B9 := B9.same sa
  have R9 := R9.same sa
  have T9 := tape_same sa T9
  clear ha hDa sa hsq
  have hsq := R9.seq
  walk_at "ss"
  refine lc_ownL (fun D G v rs => RowAt [t, b, D] G v rs) (fun _ _ _ _ _ s h => h.same s) (fun _ _ _ _ _ _ e h => h.put e (by simp)) (fun i => bs[i]?) (w := walk_list (K := K) (a := D9) (xs := rv)) (by omega) (fun H' s => SqL.of (s _ _ hsq)) ?_ ?_
  · rintro D i x H2 H3 N hD hi s2 ⟨acc, hacc⟩ ⟨rfl, hx⟩ hy hn
    obtain ⟨rs, hrs, F, hbk, hF⟩ := Paired.getL (R9.same s2).bks hx
    have sm24 := R9.small rs (List.mem_of_getElem? hrs)
    walk_at "ss"
    rename_i pr Hr yr sr fr ar rr
    have nt := ni_tape fr (tape_same s2 T9)
    refine hy _ rs _ hrs sr ⟨pr, yr, rfl, fun z => ?_, ar, rr⟩
    simp only [List.mem_cons, List.not_mem_nil, or_false] at z nt
    rcases z with z | z | z
    · exact nt (.inl z)
    · exact nt (.inr z)
    · rw [z] at fr
      rw [fr] at hacc
      cases hacc
  intro Da Ha ya hDa sa ha ra
  rw [hrl, range_get] at ra
  walk_at "ss"
  refine g_reprRows ha ra B9.good (fun rs h => Nat.le_trans (B9.small rs h) (by decide)) B9.few ?_
  have h8 := sa _ _ h8
  have B9 := B9.same sa
  have R9 := R9.same sa
  have T9 := tape_same sa T9
  clear ha hDa sa ra hsq
  have hsq := B9.seq
  walk_at "ss"
  refine lc_ownL (fun D G v rs => RowAt [t, b, D] G v rs) (fun _ _ _ _ _ s h => h.same s) (fun _ _ _ _ _ _ e h => h.put e (by simp)) (fun i => bs[i]?) (w := walk_list (K := K) (a := bq) (xs := vs)) (by omega) (fun H' s => SqL.of (s _ _ hsq)) ?_ ?_
  · rintro D i x H2 H3 N hD hi s2 ⟨acc, hacc⟩ ⟨rfl, hx⟩ hy hn
    obtain ⟨rs, hrs, F, hbk, hF⟩ := Paired.getL (B9.same s2).bks hx
    have sm24 := B9.small rs (List.mem_of_getElem? hrs)
    walk_at "ss"
    rename_i pr Hr yr sr fr ar rr
    have nt := ni_tape fr (tape_same s2 T9)
    refine hy _ rs _ hrs sr ⟨pr, yr, rfl, fun z => ?_, ar, rr⟩
    simp only [List.mem_cons, List.not_mem_nil, or_false] at z nt
    rcases z with z | z | z
    · exact nt (.inl z)
    · exact nt (.inr z)
    · rw [z] at fr
      rw [fr] at hacc
      cases hacc
  intro Da Ha ya hDa sa ha ra
  rw [hvl, range_get] at ra
  walk_at "ss"
  refine g_reprRows ha ra B9.good (fun rs h => Nat.le_trans (B9.small rs h) (by decide)) B9.few ?_
  walk_at "ss"
  have h8 := sa _ _ h8
  have B9 := B9.same sa
  have R9 := R9.same sa
  have T9 := tape_same sa T9
  clear ha hDa sa ra hsq
  refine ite_nd (fun _ => ?_) fun z => absurd rfl z
  walk_at "ss"
  refine for_range (lo := 0) (n := 2) (fun i σ H' => ∃ v7 v8 v9 v10, σ = [some (.ref a), some (.ref t), some (.int dn), some (.int base), some (.ref bq), some (.ref D8), some (.ref D9), v7, v8, v9, v10, none, none, none] ∧ Tape H' t b s ∧ Bks K t b H' bq vs bs ∧ Bks K t b H' D9 rv bs ∧ H' D8 = some (.lst ((bs.map textB).map V.str))) ⟨_, _, _, _, rfl, T9, B9, R9, h8⟩ ?_ ?_
  · clear T9 B9 R9 h8
    rintro i σ H9 hi ⟨v7, v8, v9, v10, rfl, T, B, R, hT⟩
    walk_at "ss"
    rename_i st c0 g0 H2 T2 k2 f2 a2 q0 q1 q2 q3
    have B2 := B.kp k2 T
    have R2 := R.kp k2 T
    have hT2 := k2 _ _ hT nD8
    have sty : StayB c0 g0 := ⟨by omega, by omega, by omega, by omega⟩
    have hsq := B2.seq
    clear B R hT k2 T
    walk_at "ss"
    rename_i lp hlp
    have sN := same_new (o := .lst vs) hlp
    have BN := B2.same sN
    have RN := R2.same sN
    have TN := tape_same sN T2
    have aN := sN _ _ a2
    have hTN := sN _ _ hT2
    have eN : (upd H2 lp (.lst vs)) lp = some (.lst vs) := upd_same
    have nl : lp ∉ [t, b] := ni_tape hlp T2
    generalize upd H2 lp (.lst vs) = G at sN BN RN TN aN eN hTN ⊢
    clear B2 R2 T2 hlp sN hsq hT2 a2 f2
    refine g_bestB cf cb ((BN.to eN nl).bst (SqT.of aN) sty) fun w1 H1 s1 W1 => ?_
    have B2 := BN.same s1
    have R2 := RN.same s1
    have T2 := tape_same s1 TN
    have a2 := s1 _ _ aN
    have hT2 := s1 _ _ hTN
    have hsq := R2.seq
    clear BN RN TN aN hTN eN s1
    walk_at "ss"
    rename_i lp' hlp
    have sN := same_new (o := .lst rv) hlp
    have BN := B2.same sN
    have RN := R2.same sN
    have TN := tape_same sN T2
    have aN := sN _ _ a2
    have hTN := sN _ _ hT2
    have W1N := W1.same sN
    have eN : (upd H1 lp' (.lst rv)) lp' = some (.lst rv) := upd_same
    have nl : lp' ∉ [t, b] := ni_tape hlp T2
    generalize upd H1 lp' (.lst rv) = G at sN BN RN TN aN eN hTN W1N ⊢
    clear B2 R2 T2 hlp sN hsq hT2 a2 W1
    refine g_bestB cf cb ((RN.to eN nl).bst (SqT.of aN) sty) fun w2 H3 s1 W2 => ?_
    have B2 := BN.same s1
    have R2 := RN.same s1
    have T2 := tape_same s1 TN
    have a2 := s1 _ _ aN
    have hT2 := s1 _ _ hTN
    have W1 := W1N.same s1
    clear BN RN TN aN hTN eN s1 W1N
    with_reducible refine g_name ?_
    with_reducible refine g_seq ?_
    with_reducible refine g_ifS ?_
    refine cut_tt false (fun k' hk => ?_) ?_
    · walk_at "ss"
      refine g_b0 W1 ?_
      walk_at "ss"
      refine g_b0 W2 ?_
      walk_at "ss"
      rw [decide_eq_true rfl]
      walk_at "ss"
      refine g_b0 W1 ?_
      walk_at "ss"
      rw [bw_had]
      cases o : offB bs c0 g0 with
      | true =>
        walk_at "ss"
        exact hk
      | false =>
        walk_at "ss"
        refine g_b1 W1 o ?_
        walk_at "ss"
        refine g_b1 W2 o ?_
        walk_at "ss"
        rw [decide_eq_true rfl]
        exact hk
    · have hsq := R2.seq
      walk_at "ss"
      rename_i lpa hlp
      have sN := same_new (o := .lst rv) hlp
      have BN := B2.same sN
      have RN := R2.same sN
      have TN := tape_same sN T2
      have aN := sN _ _ a2
      have hTN := sN _ _ hT2
      have W1N := W1.same sN
      have W2N := W2.same sN
      have eN : (upd H3 lpa (.lst rv)) lpa = some (.lst rv) := upd_same
      have nl : lpa ∉ [t, b] := ni_tape hlp T2
      generalize upd H3 lpa (.lst rv) = G at sN BN RN TN aN eN hTN W1N W2N ⊢
      clear B2 R2 T2 hlp sN hsq hT2 a2 W1 W2
      have th := W1N.thingD sty
      refine g_lets_by cf cb ((RN.to eN nl).bst (SqT.of aN) sty) th.at th.wide fun H5 s5 => ?_
      rw [alk_lets RN.good (alk_refl bs c0 g0) (by omega) q1 (by omega) (by omega)]
      have B2 := BN.same s5
      have R2 := RN.same s5
      have T2 := tape_same s5 TN
      have a2 := s5 _ _ aN
      have hT2 := s5 _ _ hTN
      have W1 := W1N.same s5
      have W2 := W2N.same s5
      clear BN RN TN aN hTN eN s5 W1N W2N th nl
      walk_at "ss"
      refine ite_f (by decide) ?_
      have hsq := B2.seq
      walk_at "ss"
      rename_i lpb hlp
      have sN := same_new (o := .lst vs) hlp
      have BN := B2.same sN
      have RN := R2.same sN
      have TN := tape_same sN T2
      have aN := sN _ _ a2
      have hTN := sN _ _ hT2
      have W1N := W1.same sN
      have W2N := W2.same sN
      have eN : (upd H5 lpb (.lst vs)) lpb = some (.lst vs) := upd_same
      have nl : lpb ∉ [t, b] := ni_tape hlp T2
      generalize upd H5 lpb (.lst vs) = G at sN BN RN TN aN eN hTN W1N W2N ⊢
      clear B2 R2 T2 hlp sN hsq hT2 a2 W1 W2
      have th := W2N.thingD sty
      refine g_lets_by cf cb ((BN.to eN nl).bst (SqT.of aN) sty) th.at th.wide fun H5 s5 => ?_
      rw [alk_lets BN.good (alk_refl bs c0 g0) (by omega) q1 (by omega) (by omega)]
      have B2 := BN.same s5
      have R2 := RN.same s5
      have T2 := tape_same s5 TN
      have a2 := s5 _ _ aN
      have hT2 := s5 _ _ hTN
      have W1 := W1N.same s5
      have W2 := W2N.same s5
      clear BN RN TN aN hTN eN s5 W1N W2N th nl
      walk_at "ss"
      refine ite_f (by decide) ?_
      have hsq := B2.seq
      walk_at "ss"
      refine lc_ownL (fun D G v d => BarR [t, b, D] G v d) (fun _ _ _ _ _ s h => h.same s) (fun _ _ _ _ _ _ e h => h.put e (by simp)) (fun i => (bs[i]?).map fun rs => PyData.list ((barsL rs c0 g0).map barD)) (w := walk_list (K := K) (a := bq) (xs := vs)) (by omega) (fun H' s => SqL.of (s _ _ hsq)) ?_ ?_
      · rintro D i x H2' H3' N hD hi s2 ⟨acc, hacc⟩ ⟨rfl, hx⟩ hy hn
        obtain ⟨rs, hrs, F, hbk, hF⟩ := Paired.getL (B2.same s2).bks hx
        walk_at "ss"
        refine g_bars cf cb hbk (B2.good rs (List.mem_of_getElem? hrs)) (SqT.of (s2 _ _ a2)) (by omega) fun pr yr Hr sr fr ar rr => ?_
        walk_at "ss"
        have nt := ni_tape fr (tape_same s2 T2)
        refine hy _ _ _ (by rw [hrs]; rfl) sr ⟨pr, yr, _, rfl, fun z => ?_, ar, rfl, rr⟩
        simp only [List.mem_cons, List.not_mem_nil, or_false] at z nt
        rcases z with z | z | z
        · exact nt (.inl z)
        · exact nt (.inr z)
        · rw [z] at fr
          rw [fr] at hacc
          cases hacc
      intro Da Ha ya hDa sa ha ra
      rw [hvl, flt_some bs fun rs => PyData.list ((barsL rs c0 g0).map barD)] at ra
      have B2 := B2.same sa
      have R2 := R2.same sa
      have T2 := tape_same sa T2
      have a2 := sa _ _ a2
      have hT2 := sa _ _ hT2
      have hsq := R2.seq
      clear hDa sa W1 W2
      walk_at "ss"
      refine lc_ownL (fun D G v d => BarR [t, b, D] G v d) (fun _ _ _ _ _ s h => h.same s) (fun _ _ _ _ _ _ e h => h.put e (by simp)) (fun i => (bs[i]?).map fun rs => PyData.list ((barsL rs c0 g0).map barD)) (w := walk_list (K := K) (a := D9) (xs := rv)) (by omega) (fun H' s => SqL.of (s _ _ hsq)) ?_ ?_
      · rintro D i x H2' H3' N hD hi s2 ⟨acc, hacc⟩ ⟨rfl, hx⟩ hy hn
        obtain ⟨rs, hrs, F, hbk, hF⟩ := Paired.getL (R2.same s2).bks hx
        walk_at "ss"
        refine g_bars cf cb hbk (R2.good rs (List.mem_of_getElem? hrs)) (SqT.of (s2 _ _ a2)) (by omega) fun pr yr Hr sr fr ar rr => ?_
        walk_at "ss"
        have nt := ni_tape fr (tape_same s2 T2)
        refine hy _ _ _ (by rw [hrs]; rfl) sr ⟨pr, yr, _, rfl, fun z => ?_, ar, rfl, rr⟩
        simp only [List.mem_cons, List.not_mem_nil, or_false] at z nt
        rcases z with z | z | z
        · exact nt (.inl z)
        · exact nt (.inr z)
        · rw [z] at fr
          rw [fr] at hacc
          cases hacc
      intro Db Hb yb hDb sb hb rb
      rw [hrl, flt_some bs fun rs => PyData.list ((barsL rs c0 g0).map barD)] at rb
      walk_at "ss"
      refine g_neD_same (d := .list (bs.map fun rs => PyData.list ((barsL rs c0 g0).map barD))) (.lst (SqL.of (sb _ _ ha)) (bar_dps (Paired.mapP ra fun _ _ x => x.same sb))) (.lst (SqL.of hb) (bar_dps rb)) (bar_sh _ _ _) (by decide) ?_
      walk_at "ss"
      exact ⟨_, _, _, _, rfl, tape_same sb T2, B2.same sb, R2.same sb, sb _ _ hT2⟩
  · rintro σ H9 ⟨v7, v8, v9, v10, rfl, T, B, R, hT⟩
    walk_at "ss"
    obtain ⟨v0, hv0⟩ : ∃ v0, vs[0]? = some v0 := ⟨_, List.getElem?_eq_getElem (by omega)⟩
    obtain ⟨vk, hvk⟩ : ∃ vk, vs[vs.length - 1]? = some vk := ⟨_, List.getElem?_eq_getElem (by omega)⟩
    obtain ⟨r0, hr0, F0, bk0, n0⟩ := Paired.getL B.bks hv0
    obtain ⟨rk, hrk, Fk, bkk, nk⟩ := Paired.getL B.bks hvk
    have m0 := B.small r0 (List.mem_of_getElem? hr0)
    have mk := B.small rk (List.mem_of_getElem? hrk)
    have g0 := B.good r0 (List.mem_of_getElem? hr0)
    have gk := B.good rk (List.mem_of_getElem? hrk)
    have hsq := B.seq
    refine g_ixL (SqL.of hsq) (at_k0 hv0) ?_
    walk_at "ss"
    rename_i q1 Hb y1 sb fb hb rb
    have lb := ru_len rb
    have hsq := sb _ _ hsq
    have bk0 := bk_same sb bk0
    have bkk := bk_same sb bkk
    have hT := sb _ _ hT
    clear B R T sb fb
    refine g_ixL (SqL.of hsq) (at_end hvk) ?_
    walk_at "ss"
    rename_i q2 Hc y2 sc fc hc rc
    have lc := ru_len rc
    have hsq := sc _ _ hsq
    have bk0 := bk_same sc bk0
    have bkk := bk_same sc bkk
    have hT := sc _ _ hT
    clear sc fc rb hb
    walk_at "ss"
    refine ite_df (by omega) ?_
    walk_at "ss"
    have e0 : ((bs.map textB).map V.str)[0]? = some (.str (textB r0)) := by rw [List.getElem?_map, List.getElem?_map, hr0]; rfl
    have ek : ((bs.map textB).map V.str)[((bs.map textB).map V.str).length - 1]? = some (.str (textB rk)) := by rw [List.getElem?_map, List.getElem?_map, List.length_map, List.length_map, ← hvl, hrk]; rfl
    have t0 := text_len g0
    have tk := text_len gk
    have gg : ∀ r ∈ r0 ++ rk, RuleD.good r := fun r hr => (List.mem_append.mp hr).elim (g0 r) (gk r)
    refine g_ixL (SqL.of hT) (at_k0 e0) ?_
    walk_at "ss"
    refine g_ixL (SqL.of hT) (at_end ek) ?_
    refine ⟨_, _, rfl, rfl, sz_of (by omega), ?_⟩
    walk_at "ss"
    rw [text_app]
    refine g_read_book cf cb gg (by rw [List.length_append]; omega) fun v F Hd sd bkd fd => ?_
    have hsq := sd _ _ hsq
    have bk0 := bk_same sd bk0
    have bkk := bk_same sd bkk
    have lg : (r0 ++ rk).length ≤ 20 := by rw [List.length_append]; omega
    clear sd fd hT rc hc
    clear h8 B9 R9 T9 tok e0 ek t0 tk n0 nk
    walk_at "ss"
    rename_i q3 Hf y3 sf ff hf rf
    have hsq := sf _ _ hsq
    have bk0 := bk_same sf bk0
    have bkk := bk_same sf bkk
    clear sf ff
    refine g_ixL (SqL.of hsq) (at_k0 hv0) ?_
    walk_at "ss"
    refine g_ixL (SqL.of hsq) (at_end hvk) ?_
    walk_at "ss"
    refine g_laid cf cb bk0 bkk (by rw [List.length_append] at lg; omega) g0 gk fun v' F' Hg sg bkg fg => ?_
    walk_at "ss"
    rw [decide_eq_true rfl]
    exact q _
open PySem PySem.Spec PyProof.Rows L2 YHd
/-- what the module's names hold -/
structure Txt (K : PySem.W.Frag) (mg : Str → Option Value) : Prop where
  b_abs : mg "abs" = none
  b_all : mg "all" = none
  b_any : mg "any" = none
  b_bool : mg "bool" = none
  b_enumerate : mg "enumerate" = none
  b_int : mg "int" = none
  b_isinstance : mg "isinstance" = none
  b_len : mg "len" = none
  b_list : mg "list" = none
  b_max : mg "max" = none
  b_range : mg "range" = none
  b_repr : mg "repr" = none
  b_sorted : mg "sorted" = none
  b_str : mg "str" = none
  b_sum : mg "sum" = none
  b_tuple : mg "tuple" = none
  c_FIGURES : ∃ u, mg "FIGURES" = some u ∧ RelV (.str "0123456789") u
  c_LAST_DAY : ∃ u, mg "LAST_DAY" = some u ∧ RelV (.int 1000000) u
  c_MOST_COINS : ∃ u, mg "MOST_COINS" = some u ∧ RelV (.int 1000000000000) u
  c_MOST_NIGHTS : ∃ u, mg "MOST_NIGHTS" = some u ∧ RelV (.int 14) u
  c_MOST_RULES : ∃ u, mg "MOST_RULES" = some u ∧ RelV (.int 24) u
  c_WORDS : ∃ u, mg "WORDS" = some u ∧ RelV (.ref (He.ga K "WORDS")) u
  g_Book : mg "Book" = some (.ref (He.ga K "Book"))
  g_Come : mg "Come" = some (.ref (He.ga K "Come"))
  g_Deal : mg "Deal" = some (.ref (He.ga K "Deal"))
  g_Fee : mg "Fee" = some (.ref (He.ga K "Fee"))
  g_Go : mg "Go" = some (.ref (He.ga K "Go"))
  g_Least : mg "Least" = some (.ref (He.ga K "Least"))
  g_Most : mg "Most" = some (.ref (He.ga K "Most"))
  g_Price : mg "Price" = some (.ref (He.ga K "Price"))
section
variable {P : Program} {w : World} {K : PySem.W.Frag} {mg : Str → Option Value} {base : Heap}
theorem sc_Ltape : FnScope ["_law_script", "_law_cell"] ["_law_script"] (defScope s_Ltape) := ⟨rfl, rfl, rfl, by decide +kernel, rfl, by decide +kernel, by decide +kernel⟩
theorem sc_Ldraw : FnScope ["_law_tape_here", "_law_many", "_law_found", "_law_cell", "_law_number"] ["_law_tape_here", "_law_many"] (defScope s_Ldraw) := ⟨rfl, rfl, rfl, by decide +kernel, rfl, by decide +kernel, by decide +kernel⟩
theorem sc_Lcoins : FnScope ["_law_tape_here"] ["_law_tape_here"] (defScope s_Lcoins) := ⟨rfl, rfl, rfl, by decide +kernel, rfl, by decide +kernel, by decide +kernel⟩
theorem sc_Lprice_rules : FnScope ["_law_tape_here", "_law_base", "_law_days", "_law_found", "_law_k", "_law_first", "_law_worth_here"] ["_law_tape_here", "_law_base", "_law_days"] (defScope s_Lprice_rules) := ⟨rfl, rfl, rfl, by decide +kernel, rfl, by decide +kernel, by decide +kernel⟩
theorem sc_Lworth : FnScope ["_law_tape_here", "_law_word", "_law_many"] ["_law_tape_here", "_law_word"] (defScope s_Lworth) := ⟨rfl, rfl, rfl, by decide +kernel, rfl, by decide +kernel, by decide +kernel⟩
theorem sc_Lother_rules : FnScope ["_law_tape_here", "_law_base", "_law_days", "_law_found", "_law_k", "_law_word", "_law_first"] ["_law_tape_here", "_law_base", "_law_days"] (defScope s_Lother_rules) := ⟨rfl, rfl, rfl, by decide +kernel, rfl, by decide +kernel, by decide +kernel⟩
theorem sc_Lrules : FnScope ["_law_tape_here", "_law_base", "_law_days", "_law_ones", "_law_others"] ["_law_tape_here", "_law_base", "_law_days"] (defScope s_Lrules) := ⟨rfl, rfl, rfl, by decide +kernel, rfl, by decide +kernel, by decide +kernel⟩
theorem sc_is_whole : FnScope ["thing"] ["thing"] (defScope s_is_whole) := ⟨rfl, rfl, rfl, by decide +kernel, rfl, by decide +kernel, by decide +kernel⟩
theorem sc_is_day : FnScope ["thing"] ["thing"] (defScope s_is_day) := ⟨rfl, rfl, rfl, by decide +kernel, rfl, by decide +kernel, by decide +kernel⟩
theorem sc_is_two_days : FnScope ["thing"] ["thing"] (defScope s_is_two_days) := ⟨rfl, rfl, rfl, by decide +kernel, rfl, by decide +kernel, by decide +kernel⟩
theorem sc_is_stretch : FnScope ["thing"] ["thing"] (defScope s_is_stretch) := ⟨rfl, rfl, rfl, by decide +kernel, rfl, by decide +kernel, by decide +kernel⟩
theorem sc_Rule_init : FnScope ["self", "first", "last", "worth"] ["self", "first", "last", "worth"] (defScope s_Rule_init) := ⟨rfl, rfl, rfl, by decide +kernel, rfl, by decide +kernel, by decide +kernel⟩
theorem sc_made : FnScope ["word", "first", "last", "worth"] ["word", "first", "last", "worth"] (defScope s_made) := ⟨rfl, rfl, rfl, by decide +kernel, rfl, by decide +kernel, by decide +kernel⟩
theorem sc_is_coins : FnScope ["thing"] ["thing"] (defScope s_is_coins) := ⟨rfl, rfl, rfl, by decide +kernel, rfl, by decide +kernel, by decide +kernel⟩
theorem sc_Price_fits : FnScope ["self"] ["self"] (defScope s_Price_fits) := ⟨rfl, rfl, rfl, by decide +kernel, rfl, by decide +kernel, by decide +kernel⟩
theorem sc_Come_fits : FnScope ["self"] ["self"] (defScope s_Come_fits) := ⟨rfl, rfl, rfl, by decide +kernel, rfl, by decide +kernel, by decide +kernel⟩
theorem sc_Go_fits : FnScope ["self"] ["self"] (defScope s_Go_fits) := ⟨rfl, rfl, rfl, by decide +kernel, rfl, by decide +kernel, by decide +kernel⟩
theorem sc_is_nights : FnScope ["thing"] ["thing"] (defScope s_is_nights) := ⟨rfl, rfl, rfl, by decide +kernel, rfl, by decide +kernel, by decide +kernel⟩
theorem sc_Least_fits : FnScope ["self"] ["self"] (defScope s_Least_fits) := ⟨rfl, rfl, rfl, by decide +kernel, rfl, by decide +kernel, by decide +kernel⟩
theorem sc_Most_fits : FnScope ["self"] ["self"] (defScope s_Most_fits) := ⟨rfl, rfl, rfl, by decide +kernel, rfl, by decide +kernel, by decide +kernel⟩
theorem sc_Deal_fits : FnScope ["self", "many", "free"] ["self"] (defScope s_Deal_fits) := ⟨rfl, rfl, rfl, by decide +kernel, rfl, by decide +kernel, by decide +kernel⟩
theorem sc_Fee_fits : FnScope ["self"] ["self"] (defScope s_Fee_fits) := ⟨rfl, rfl, rfl, by decide +kernel, rfl, by decide +kernel, by decide +kernel⟩
theorem sc_rule_of : FnScope ["thing", "rule"] ["thing"] (defScope s_rule_of) := ⟨rfl, rfl, rfl, by decide +kernel, rfl, by decide +kernel, by decide +kernel⟩
theorem sc_Price_word : FnScope ["self"] ["self"] (defScope s_Price_word) := ⟨rfl, rfl, rfl, by decide +kernel, rfl, by decide +kernel, by decide +kernel⟩
theorem sc_Come_word : FnScope ["self"] ["self"] (defScope s_Come_word) := ⟨rfl, rfl, rfl, by decide +kernel, rfl, by decide +kernel, by decide +kernel⟩
theorem sc_Go_word : FnScope ["self"] ["self"] (defScope s_Go_word) := ⟨rfl, rfl, rfl, by decide +kernel, rfl, by decide +kernel, by decide +kernel⟩
theorem sc_Least_word : FnScope ["self"] ["self"] (defScope s_Least_word) := ⟨rfl, rfl, rfl, by decide +kernel, rfl, by decide +kernel, by decide +kernel⟩
theorem sc_Most_word : FnScope ["self"] ["self"] (defScope s_Most_word) := ⟨rfl, rfl, rfl, by decide +kernel, rfl, by decide +kernel, by decide +kernel⟩
theorem sc_Deal_word : FnScope ["self"] ["self"] (defScope s_Deal_word) := ⟨rfl, rfl, rfl, by decide +kernel, rfl, by decide +kernel, by decide +kernel⟩
theorem sc_Fee_word : FnScope ["self"] ["self"] (defScope s_Fee_word) := ⟨rfl, rfl, rfl, by decide +kernel, rfl, by decide +kernel, by decide +kernel⟩
theorem sc_Book_init : FnScope ["self", "rules", "things", "number", "thing", "rule"] ["self", "rules"] (defScope s_Book_init) := ⟨rfl, rfl, rfl, by decide +kernel, rfl, by decide +kernel, by decide +kernel⟩
theorem sc_Lbooks : FnScope ["_law_tape_here", "_law_base", "_law_days", "_law_found", "_law_k"] ["_law_tape_here", "_law_base", "_law_days"] (defScope s_Lbooks) := ⟨rfl, rfl, rfl, by decide +kernel, rfl, by decide +kernel, by decide +kernel⟩
theorem sc_Rule_told : FnScope ["self"] ["self"] (defScope s_Rule_told) := ⟨rfl, rfl, rfl, by decide +kernel, rfl, by decide +kernel, by decide +kernel⟩
theorem sc_Book_rules : FnScope ["self", "rule"] ["self"] (defScope s_Book_rules) := ⟨rfl, rfl, rfl, by decide +kernel, rfl, by decide +kernel, by decide +kernel⟩
theorem sc_worth_text : FnScope ["word", "worth"] ["word", "worth"] (defScope s_worth_text) := ⟨rfl, rfl, rfl, by decide +kernel, rfl, by decide +kernel, by decide +kernel⟩
theorem sc_rule_text : FnScope ["rule", "word", "first", "last", "worth"] ["rule"] (defScope s_rule_text) := ⟨rfl, rfl, rfl, by decide +kernel, rfl, by decide +kernel, by decide +kernel⟩
theorem sc_show_book : FnScope ["book", "rule"] ["book"] (defScope s_show_book) := ⟨rfl, rfl, rfl, by decide +kernel, rfl, by decide +kernel, by decide +kernel⟩
theorem sc_number_by : FnScope ["word", "sign"] ["word"] (defScope s_number_by) := ⟨rfl, rfl, rfl, by decide +kernel, rfl, by decide +kernel, by decide +kernel⟩
theorem sc_worths_by : FnScope ["word", "words", "numbers", "one", "text", "worth"] ["word", "words"] (defScope s_worths_by) := ⟨rfl, rfl, rfl, by decide +kernel, rfl, by decide +kernel, by decide +kernel⟩
theorem sc_rule_by : FnScope ["text", "words", "first", "last", "worth", "rule"] ["text"] (defScope s_rule_by) := ⟨rfl, rfl, rfl, by decide +kernel, rfl, by decide +kernel, by decide +kernel⟩
theorem sc_read_book : FnScope ["thing", "lines", "rules", "line"] ["thing"] (defScope s_read_book) := ⟨rfl, rfl, rfl, by decide +kernel, rfl, by decide +kernel, by decide +kernel⟩
theorem sc_Lstay : FnScope ["_law_tape_here", "_law_base", "_law_days", "_law_many", "_law_come"] ["_law_tape_here", "_law_base", "_law_days"] (defScope s_Lstay) := ⟨rfl, rfl, rfl, by decide +kernel, rfl, by decide +kernel, by decide +kernel⟩
theorem sc_Rule_tells : FnScope ["self", "day"] ["self", "day"] (defScope s_Rule_tells) := ⟨rfl, rfl, rfl, by decide +kernel, rfl, by decide +kernel, by decide +kernel⟩
theorem sc_usual : FnScope ["word"] ["word"] (defScope s_usual) := ⟨rfl, rfl, rfl, by decide +kernel, rfl, by decide +kernel, by decide +kernel⟩
theorem sc_Book_tells_of : FnScope ["self", "word", "day", "rule"] ["self", "word", "day"] (defScope s_Book_tells_of) := ⟨rfl, rfl, rfl, by decide +kernel, rfl, by decide +kernel, by decide +kernel⟩
theorem sc_nights_of : FnScope ["stay"] ["stay"] (defScope s_nights_of) := ⟨rfl, rfl, rfl, by decide +kernel, rfl, by decide +kernel, by decide +kernel⟩
theorem sc_can_be_had : FnScope ["book", "stay", "come", "go", "night"] ["book", "stay"] (defScope s_can_be_had) := ⟨rfl, rfl, rfl, by decide +kernel, rfl, by decide +kernel, by decide +kernel⟩
theorem sc_marked : FnScope ["prices", "deal", "price", "found", "many", "free", "begin", "bundle", "back", "at"] ["prices", "deal"] (defScope s_marked) := ⟨rfl, rfl, rfl, by decide +kernel, rfl, by decide +kernel, by decide +kernel⟩
theorem sc_bill : FnScope ["book", "stay", "nights", "prices", "marks", "fee", "rows", "night", "k", "coins", "free"] ["book", "stay"] (defScope s_bill) := ⟨rfl, rfl, rfl, by decide +kernel, rfl, by decide +kernel, by decide +kernel⟩
theorem sc_coins_of : FnScope ["book", "stay"] ["book", "stay"] (defScope s_coins_of) := ⟨rfl, rfl, rfl, by decide +kernel, rfl, by decide +kernel, by decide +kernel⟩
theorem sc_parts_from : FnScope ["books", "stay", "day", "found", "number", "book", "to", "coins"] ["books", "stay", "day"] (defScope s_parts_from) := ⟨rfl, rfl, rfl, by decide +kernel, rfl, by decide +kernel, by decide +kernel⟩
theorem sc_ways : FnScope ["books", "stay", "found", "day", "coins", "part", "told"] ["books", "stay"] (defScope s_ways) := ⟨rfl, rfl, rfl, by decide +kernel, rfl, by decide +kernel, by decide +kernel⟩
theorem sc_paper_by : FnScope ["found", "stay", "most", "heights", "day", "k", "coins", "part"] ["found", "stay"] (defScope s_paper_by) := ⟨rfl, rfl, rfl, by decide +kernel, rfl, by decide +kernel, by decide +kernel⟩
theorem sc_cut_by : FnScope ["found", "go", "parts", "part"] ["found", "go"] (defScope s_cut_by) := ⟨rfl, rfl, rfl, by decide +kernel, rfl, by decide +kernel, by decide +kernel⟩
theorem sc_best : FnScope ["books", "stay", "found"] ["books", "stay"] (defScope s_best) := ⟨rfl, rfl, rfl, by decide +kernel, rfl, by decide +kernel, by decide +kernel⟩
theorem sc_priced_parts : FnScope ["books", "stay", "found", "begin", "book", "end", "coins"] ["books", "stay"] (defScope s_priced_parts) := ⟨rfl, rfl, rfl, by decide +kernel, rfl, by decide +kernel, by decide +kernel⟩
theorem sc_is_shut : FnScope ["books", "stay", "thing", "day", "begin", "end", "price"] ["books", "stay", "thing"] (defScope s_is_shut) := ⟨rfl, rfl, rfl, by decide +kernel, rfl, by decide +kernel, by decide +kernel⟩
theorem sc_is_stay : FnScope ["thing"] ["thing"] (defScope s_is_stay) := ⟨rfl, rfl, rfl, by decide +kernel, rfl, by decide +kernel, by decide +kernel⟩
theorem sc_is_part : FnScope ["books", "stay", "thing", "begin", "end", "number"] ["books", "stay", "thing"] (defScope s_is_part) := ⟨rfl, rfl, rfl, by decide +kernel, rfl, by decide +kernel, by decide +kernel⟩
theorem sc_is_cut : FnScope ["books", "stay", "thing", "day", "part"] ["books", "stay", "thing"] (defScope s_is_cut) := ⟨rfl, rfl, rfl, by decide +kernel, rfl, by decide +kernel, by decide +kernel⟩
theorem sc_cost : FnScope ["book", "stay", "coins"] ["book", "stay"] (defScope s_cost) := ⟨rfl, rfl, rfl, by decide +kernel, rfl, by decide +kernel, by decide +kernel⟩
theorem sc_cost_of : FnScope ["books", "part"] ["books", "part"] (defScope s_cost_of) := ⟨rfl, rfl, rfl, by decide +kernel, rfl, by decide +kernel, by decide +kernel⟩
theorem sc_is_paper : FnScope ["books", "stay", "coins", "thing", "begin", "end", "price", "number"] ["books", "stay", "coins", "thing"] (defScope s_is_paper) := ⟨rfl, rfl, rfl, by decide +kernel, rfl, by decide +kernel, by decide +kernel⟩
theorem sc_lets_by : FnScope ["books", "stay", "thing", "part"] ["books", "stay", "thing"] (defScope s_lets_by) := ⟨rfl, rfl, rfl, by decide +kernel, rfl, by decide +kernel, by decide +kernel⟩
theorem sc_bars : FnScope ["book", "stay", "come", "go", "found", "night"] ["book", "stay"] (defScope s_bars) := ⟨rfl, rfl, rfl, by decide +kernel, rfl, by decide +kernel, by decide +kernel⟩
theorem sc_laid : FnScope ["elder", "newer"] ["elder", "newer"] (defScope s_laid) := ⟨rfl, rfl, rfl, by decide +kernel, rfl, by decide +kernel, by decide +kernel⟩
theorem sc_law : FnScope ["_law_script", "_law_tape_here", "_law_days", "_law_base", "_law_books_here", "_law_texts", "_law_read", "_law_turn", "_law_stay_here", "_law_one", "_law_other", "_law_both", "_law_book", "_law_text"] ["_law_script"] (defScope s_law) := ⟨rfl, rfl, rfl, by decide +kernel, rfl, by decide +kernel, by decide +kernel⟩
theorem ok_Ltape (T : Txt K mg) {f : Addr} {fd : FuncData} (F : FunD K "_law_tape" "_law_tape" (defArgs s_Ltape) (defBody s_Ltape) (defScope s_Ltape) [] [] f fd)  : FnG P w K mg base CX0 1 f fd ["_law_script"] (sp_Ltape K) := by
  refine g_def F sc_Ltape (fun vs H Q E h => ?_) (fun cdv A outer s H vs Q E hr h => ⟨t_Ltape K, PSs.nox ?_, ?_⟩)
  · obtain ⟨_, rfl, _⟩ := h
    rfl
  · exact (pss_one (ps_ret (pe_lst (pa_cons (pe_lc (own := [("_law_cell", 1)]) (g := (gName 1)) (tt := (tTest (tOp rGe (tCB rAbs (tCons (tVar 1) tNil)) (tOp rPow (tC (.int 10)) (tC (.int 18)))))) rfl sc_Ltape.nd (pi_list (pe_slice sl_list (pv 0) po_none (po_some pe_int))) (blkOk_by (own := [("_law_cell", 1)]) (N := ["_law_script", "_law_cell"]) (sc := defScope s_Ltape) (by decide +kernel)) (fun _ _ _ _ _ => (pg_name (i := 1) sc_Ltape.nd rfl (Or.inl rfl))) (fun _ _ _ _ _ => (pts_one (pt_cmpR op_ge (pe_callB call_abs (by rfl) T.b_abs (by decide +kernel) (pa_cons (pv 1) pa_nil)) (pe_op op_pow pe_int pe_int) (nomark _)))) (fun _ _ _ _ _ => (pe_callB call_abs (by rfl) T.b_abs (by decide +kernel) (pa_cons (pv 1) pa_nil)))) (pa_cons (pe_callTy call_list_of (by rfl) T.b_list (by decide +kernel) (pa_cons (pe_slice sl_list (pv 0) po_none (po_some pe_int)) pa_nil)) (pa_cons pe_int pa_nil))))))
  · obtain ⟨_, rfl, _⟩ := id h
    exact pure_Ltape h
theorem ok_Ldraw (T : Txt K mg) {f : Addr} {fd : FuncData} (F : FunD K "_law_draw" "_law_draw" (defArgs s_Ldraw) (defBody s_Ldraw) (defScope s_Ldraw) [] [] f fd)  : FnG P w K mg base CX0 1 f fd ["_law_tape_here", "_law_many"] (sp_Ldraw K) := by
  refine g_def F sc_Ldraw (fun vs H Q E h => ?_) (fun cdv A outer s H vs Q E hr h => ⟨t_Ldraw K, PSs.nox ?_, ?_⟩)
  · obtain ⟨_, _, rfl, _⟩ := h
    rfl
  · exact (pss_cons (ps_asg (pe_op op_add (pe_ix ix_list (pv 0) pe_int (fun _ _ => rfl)) pe_int) (pg_sub (pv 0) pe_int set_list))
  (pss_cons (ps_while PassesOwn.never (PW.pt (pw_and (pt_cmpR op_gt (pe_callB call_len_seq (by rfl) T.b_len (by decide +kernel) (pa_cons (pe_ix ix_list (pv 0) pe_int (fun _ _ => rfl)) pa_nil)) pe_int (nomark _)) (pw_and1 (pt_cmpR op_eq (pe_ix ix_list (pe_ix ix_list (pv 0) pe_int (fun _ _ => rfl)) pe_int (fun _ _ => rfl)) pe_int (nomark _))))) (pss_one (ps_expr (pe_bm PySem.F.plainAttrs_list PySem.F.slot_list_pop PySem.F.type_list_pop mt_popAt (pe_ix ix_list (pv 0) pe_int (fun _ _ => rfl)) (pa_cons pe_int pa_nil)))))
  (pss_cons (ps_if (pt_cmpR op_gt (pe_callB call_len_seq (by rfl) T.b_len (by decide +kernel) (pa_cons (pe_ix ix_list (pv 0) pe_int (fun _ _ => rfl)) pa_nil)) pe_int (nomark _)) (pss_cons (ps_set (i := 2) sc_Ldraw.nd rfl (Or.inl rfl) (pe_op op_mod (pe_ix ix_list (pe_ix ix_list (pv 0) pe_int (fun _ _ => rfl)) pe_int (fun _ _ => rfl)) (pv 1)))
  (pss_cons (ps_asg (pe_op op_fdivW (pe_ix ix_list (pe_ix ix_list (pv 0) pe_int (fun _ _ => rfl)) pe_int (fun _ _ => rfl)) (pv 1)) (pg_sub (pe_ix ix_list (pv 0) pe_int (fun _ _ => rfl)) pe_int set_list))
  (pss_one (ps_ret (pv 2))))) pss_nil)
  (pss_cons (ps_set (i := 3) sc_Ldraw.nd rfl (Or.inl rfl) pe_int)
  (pss_cons (ps_if (pt_cmpR op_gt (pe_callB call_len_seq (by rfl) T.b_len (by decide +kernel) (pa_cons (pe_ix ix_list (pv 0) pe_int (fun _ _ => rfl)) pa_nil)) pe_int (nomark _)) (pss_one (ps_set (i := 3) sc_Ldraw.nd rfl (Or.inl rfl) (pe_ix ix_list (pe_ix ix_list (pv 0) pe_int (fun _ _ => rfl)) (pe_op op_mod (pe_ix ix_list (pv 0) pe_int (fun _ _ => rfl)) (pe_callB call_len_seq (by rfl) T.b_len (by decide +kernel) (pa_cons (pe_ix ix_list (pv 0) pe_int (fun _ _ => rfl)) pa_nil))) (fun _ _ => rfl)))) pss_nil)
  (pss_cons (ps_set (i := 4) sc_Ldraw.nd rfl (Or.inl rfl) (pe_op op_mod (pe_op op_mul (pe_op op_add (pe_op op_add (pe_op op_mod (pv 3) pe_int) (pe_op op_mul pe_int (pe_ix ix_list (pv 0) pe_int (fun _ _ => rfl)))) pe_int) pe_int) pe_int))
  (pss_cons (ps_set (i := 4) sc_Ldraw.nd rfl (Or.inl rfl) (pe_op op_mod (pe_op op_add (pe_op op_add (pe_op op_mul (pv 4) (pv 4)) (pe_op op_mul pe_int (pe_ix ix_list (pv 0) pe_int (fun _ _ => rfl)))) pe_int) pe_int))
  (pss_one (ps_ret (pe_op op_mod (pe_op op_fdivW (pe_op op_mod (pe_op op_mul (pe_op op_fdivW (pv 4) pe_int) pe_int) pe_int) pe_int) (pv 1)))))))))))
  · obtain ⟨_, _, rfl, _⟩ := id h
    exact pure_Ldraw h
theorem ok_Lcoins (T : Txt K mg) {f : Addr} {fd : FuncData} (F : FunD K "_law_coins" "_law_coins" (defArgs s_Lcoins) (defBody s_Lcoins) (defScope s_Lcoins) [] [] f fd) (c_Ldraw : Y.Cal P w K mg base CX0 1 "_law_draw" (sp_Ldraw K) []) : FnG P w K mg base CX0 2 f fd ["_law_tape_here"] (sp_Lcoins K) := by
  refine g_def F sc_Lcoins (fun vs H Q E h => ?_) (fun cdv A outer s H vs Q E hr h => ⟨t_Lcoins K, PSs.nox ?_, ?_⟩)
  · obtain ⟨_, rfl, _⟩ := h
    rfl
  · exact (pss_one (ps_ret (pe_ix ix_list (pe_lst (pa_cons pe_int (pa_cons (Y.pe_c c_Ldraw hr (by decide) rfl pass0 (pa_cons (pv 0) (pa_cons pe_int pa_nil))) (pa_cons (Y.pe_c c_Ldraw hr (by decide) rfl pass0 (pa_cons (pv 0) (pa_cons pe_int pa_nil))) (pa_cons (pe_op op_pow pe_int pe_int) (pa_cons (Y.pe_c c_Ldraw hr (by decide) rfl pass0 (pa_cons (pv 0) (pa_cons (pe_op op_add (pe_op op_pow pe_int pe_int) pe_int) pa_nil))) pa_nil)))))) (Y.pe_c c_Ldraw hr (by decide) rfl pass0 (pa_cons (pv 0) (pa_cons pe_int pa_nil))) (fun _ _ => rfl))))
  · obtain ⟨_, rfl, _⟩ := id h
    exact pure_Lcoins h
theorem ok_Lprice_rules (T : Txt K mg) {f : Addr} {fd : FuncData} (F : FunD K "_law_price_rules" "_law_price_rules" (defArgs s_Lprice_rules) (defBody s_Lprice_rules) (defScope s_Lprice_rules) [] [] f fd) (c_Lcoins : Y.Cal P w K mg base CX0 2 "_law_coins" (sp_Lcoins K) []) (c_Ldraw : Y.Cal P w K mg base CX0 1 "_law_draw" (sp_Ldraw K) []) : FnG P w K mg base CX0 3 f fd ["_law_tape_here", "_law_base", "_law_days"] (sp_Lprice_rules K) := by
  refine g_def F sc_Lprice_rules (fun vs H Q E h => ?_) (fun cdv A outer s H vs Q E hr h => ⟨t_Lprice_rules K, PSs.nox ?_, ?_⟩)
  · obtain ⟨_, _, _, rfl, _⟩ := h
    rfl
  · exact (pss_cons (ps_set (i := 3) sc_Lprice_rules.nd rfl (Or.inl rfl) (pe_lst (pa_cons (pe_tup (pa_cons pe_str (pa_cons (pv 1) (pa_cons (pe_op op_add (pv 1) (pv 2)) (pa_cons (Y.pe_c c_Lcoins hr (by decide) rfl pass0 (pa_cons (pv 0) pa_nil)) pa_nil))))) pa_nil)))
  (pss_cons (ps_for PassesOwn.never rfl (pi_range1 rfl T.b_range (pa_cons (Y.pe_c c_Ldraw hr (by decide) rfl pass0 (pa_cons (pv 0) (pa_cons pe_int pa_nil))) pa_nil)) (pg_name (i := 4) sc_Lprice_rules.nd rfl (Or.inl rfl)) (pss_cons (ps_set (i := 5) sc_Lprice_rules.nd rfl (Or.inl rfl) (pe_op op_add (pv 1) (Y.pe_c c_Ldraw hr (by decide) rfl pass0 (pa_cons (pv 0) (pa_cons (pv 2) pa_nil)))))
  (pss_cons (ps_set (i := 6) sc_Lprice_rules.nd rfl (Or.inl rfl) (pe_ix ix_list (pe_lst (pa_cons pe_non (pa_cons (Y.pe_c c_Lcoins hr (by decide) rfl pass0 (pa_cons (pv 0) pa_nil)) (pa_cons (Y.pe_c c_Lcoins hr (by decide) rfl pass0 (pa_cons (pv 0) pa_nil)) (pa_cons (Y.pe_c c_Lcoins hr (by decide) rfl pass0 (pa_cons (pv 0) pa_nil)) pa_nil))))) (Y.pe_c c_Ldraw hr (by decide) rfl pass0 (pa_cons (pv 0) (pa_cons pe_int pa_nil))) (fun _ _ => rfl)))
  (pss_one (ps_expr (pe_bm PySem.F.plainAttrs_list PySem.F.slot_list_append PySem.F.type_list_append mt_append (pv 3) (pa_cons (pe_tup (pa_cons pe_str (pa_cons (pv 5) (pa_cons (pe_op op_add (pv 5) (Y.pe_c c_Ldraw hr (by decide) rfl pass0 (pa_cons (pv 0) (pa_cons pe_int pa_nil)))) (pa_cons (pv 6) pa_nil))))) pa_nil)))))))
  (pss_one (ps_ret (pv 3)))))
  · obtain ⟨_, _, _, rfl, _⟩ := id h
    exact pure_Lprice_rules h
theorem ok_Lworth (T : Txt K mg) {f : Addr} {fd : FuncData} (F : FunD K "_law_worth" "_law_worth" (defArgs s_Lworth) (defBody s_Lworth) (defScope s_Lworth) [] [] f fd) (c_Lcoins : Y.Cal P w K mg base CX0 2 "_law_coins" (sp_Lcoins K) []) (c_Ldraw : Y.Cal P w K mg base CX0 1 "_law_draw" (sp_Ldraw K) []) : FnG P w K mg base CX0 3 f fd ["_law_tape_here", "_law_word"] (sp_Lworth K) := by
  refine g_def F sc_Lworth (fun vs H Q E h => ?_) (fun cdv A outer s H vs Q E hr h => ⟨t_Lworth K, PSs.nox ?_, ?_⟩)
  · obtain ⟨_, _, rfl, _⟩ := h
    rfl
  · exact (pss_cons (ps_if (pt_cmpR op_eq (pv 1) pe_str (nomark _)) (pss_one (ps_ret (pe_ix ix_list (pe_lst (pa_cons pe_non (pa_cons (Y.pe_c c_Lcoins hr (by decide) rfl pass0 (pa_cons (pv 0) pa_nil)) (pa_cons (Y.pe_c c_Lcoins hr (by decide) rfl pass0 (pa_cons (pv 0) pa_nil)) pa_nil)))) (Y.pe_c c_Ldraw hr (by decide) rfl pass0 (pa_cons (pv 0) (pa_cons pe_int pa_nil))) (fun _ _ => rfl)))) pss_nil)
  (pss_cons (ps_if (PW.pt (pw_or (pt_cmpR op_eq (pv 1) pe_str (nomark _)) (pw_or1 (pt_cmpR op_eq (pv 1) pe_str (nomark _))))) (pss_one (ps_ret (pe_cmpR op_eq (Y.pe_c c_Ldraw hr (by decide) rfl pass0 (pa_cons (pv 0) (pa_cons pe_int pa_nil))) pe_int (nomark _)))) pss_nil)
  (pss_cons (ps_if (PW.pt (pw_or (pt_cmpR op_eq (pv 1) pe_str (nomark _)) (pw_or1 (pt_cmpR op_eq (pv 1) pe_str (nomark _))))) (pss_one (ps_ret (pe_op op_add pe_int (Y.pe_c c_Ldraw hr (by decide) rfl pass0 (pa_cons (pv 0) (pa_cons pe_int pa_nil)))))) pss_nil)
  (pss_cons (ps_if (pt_cmpR op_eq (pv 1) pe_str (nomark _)) (pss_cons (ps_set (i := 2) sc_Lworth.nd rfl (Or.inl rfl) (pe_op op_add pe_int (Y.pe_c c_Ldraw hr (by decide) rfl pass0 (pa_cons (pv 0) (pa_cons pe_int pa_nil)))))
  (pss_one (ps_ret (pe_ix ix_list (pe_lst (pa_cons pe_non (pa_cons (pe_tup (pa_cons (pv 2) (pa_cons (pe_op op_add pe_int (Y.pe_c c_Ldraw hr (by decide) rfl pass0 (pa_cons (pv 0) (pa_cons (pe_op op_sub (pv 2) pe_int) pa_nil)))) pa_nil))) (pa_cons (pe_tup (pa_cons pe_int (pa_cons pe_int pa_nil))) (pa_cons (pe_tup (pa_cons (pv 2) (pa_cons (pe_op op_sub (pv 2) pe_int) pa_nil))) pa_nil))))) (Y.pe_c c_Ldraw hr (by decide) rfl pass0 (pa_cons (pv 0) (pa_cons pe_int pa_nil))) (fun _ _ => rfl))))) pss_nil)
  (pss_one (ps_ret (Y.pe_c c_Lcoins hr (by decide) rfl pass0 (pa_cons (pv 0) pa_nil))))))))
  · obtain ⟨_, _, rfl, _⟩ := id h
    exact pure_Lworth h
theorem ok_Lother_rules (T : Txt K mg) {f : Addr} {fd : FuncData} (F : FunD K "_law_other_rules" "_law_other_rules" (defArgs s_Lother_rules) (defBody s_Lother_rules) (defScope s_Lother_rules) [] [] f fd) (c_Ldraw : Y.Cal P w K mg base CX0 1 "_law_draw" (sp_Ldraw K) []) (c_Lworth : Y.Cal P w K mg base CX0 3 "_law_worth" (sp_Lworth K) []) : FnG P w K mg base CX0 4 f fd ["_law_tape_here", "_law_base", "_law_days"] (sp_Lother_rules K) := by
  refine g_def F sc_Lother_rules (fun vs H Q E h => ?_) (fun cdv A outer s H vs Q E hr h => ⟨t_Lother_rules K, PSs.nox ?_, ?_⟩)
  · obtain ⟨_, _, _, rfl, _⟩ := h
    rfl
  · exact (pss_cons (ps_set (i := 3) sc_Lother_rules.nd rfl (Or.inl rfl) (pe_lst pa_nil))
  (pss_cons (ps_for PassesOwn.never rfl (pi_range1 rfl T.b_range (pa_cons (Y.pe_c c_Ldraw hr (by decide) rfl pass0 (pa_cons (pv 0) (pa_cons pe_int pa_nil))) pa_nil)) (pg_name (i := 4) sc_Lother_rules.nd rfl (Or.inl rfl)) (pss_cons (ps_set (i := 5) sc_Lother_rules.nd rfl (Or.inl rfl) (pe_ix ix_list (pe_lst (pa_cons pe_str (pa_cons pe_str (pa_cons pe_str (pa_cons pe_str (pa_cons pe_str (pa_cons pe_str pa_nil))))))) (Y.pe_c c_Ldraw hr (by decide) rfl pass0 (pa_cons (pv 0) (pa_cons pe_int pa_nil))) (fun _ _ => rfl)))
  (pss_cons (ps_set (i := 6) sc_Lother_rules.nd rfl (Or.inl rfl) (pe_op op_add (pv 1) (Y.pe_c c_Ldraw hr (by decide) rfl pass0 (pa_cons (pv 0) (pa_cons (pv 2) pa_nil)))))
  (pss_one (ps_expr (pe_bm PySem.F.plainAttrs_list PySem.F.slot_list_append PySem.F.type_list_append mt_append (pv 3) (pa_cons (pe_tup (pa_cons (pv 5) (pa_cons (pv 6) (pa_cons (pe_op op_add (pv 6) (Y.pe_c c_Ldraw hr (by decide) rfl pass0 (pa_cons (pv 0) (pa_cons pe_int pa_nil)))) (pa_cons (Y.pe_c c_Lworth hr (by decide) rfl pass0 (pa_cons (pv 0) (pa_cons (pv 5) pa_nil))) pa_nil))))) pa_nil)))))))
  (pss_one (ps_ret (pv 3)))))
  · obtain ⟨_, _, _, rfl, _⟩ := id h
    exact pure_Lother_rules h
theorem ok_Lrules (T : Txt K mg) {f : Addr} {fd : FuncData} (F : FunD K "_law_rules" "_law_rules" (defArgs s_Lrules) (defBody s_Lrules) (defScope s_Lrules) [] [] f fd) (c_Lprice_rules : Y.Cal P w K mg base CX0 3 "_law_price_rules" (sp_Lprice_rules K) []) (c_Lother_rules : Y.Cal P w K mg base CX0 4 "_law_other_rules" (sp_Lother_rules K) []) (c_Ldraw : Y.Cal P w K mg base CX0 1 "_law_draw" (sp_Ldraw K) []) : FnG P w K mg base CX0 5 f fd ["_law_tape_here", "_law_base", "_law_days"] (sp_Lrules K) := by
  refine g_def F sc_Lrules (fun vs H Q E h => ?_) (fun cdv A outer s H vs Q E hr h => ⟨t_Lrules K, PSs.nox ?_, ?_⟩)
  · obtain ⟨_, _, _, rfl, _⟩ := h
    rfl
  · exact (pss_cons (ps_set (i := 3) sc_Lrules.nd rfl (Or.inl rfl) (Y.pe_c c_Lprice_rules hr (by decide) rfl pass0 (pa_cons (pv 0) (pa_cons (pv 1) (pa_cons (pv 2) pa_nil)))))
  (pss_cons (ps_set (i := 4) sc_Lrules.nd rfl (Or.inl rfl) (Y.pe_c c_Lother_rules hr (by decide) rfl pass0 (pa_cons (pv 0) (pa_cons (pv 1) (pa_cons (pv 2) pa_nil)))))
  (pss_one (ps_ret (pe_ix ix_list (pe_lst (pa_cons (pe_op op_cat (pv 3) (pv 4)) (pa_cons (pe_op op_cat (pv 4) (pv 3)) pa_nil))) (Y.pe_c c_Ldraw hr (by decide) rfl pass0 (pa_cons (pv 0) (pa_cons pe_int pa_nil))) (fun _ _ => rfl))))))
  · obtain ⟨_, _, _, rfl, _⟩ := id h
    exact pure_Lrules h
theorem ok_is_whole (T : Txt K mg) {f : Addr} {fd : FuncData} (F : FunD K "is_whole" "is_whole" (defArgs s_is_whole) (defBody s_is_whole) (defScope s_is_whole) [] [] f fd)  : FnG P w K mg base CX0 1 f fd ["thing"] (sp_is_whole K) := by
  refine g_def F sc_is_whole (fun vs H Q E h => ?_) (fun cdv A outer s H vs Q E hr h => ⟨t_is_whole K, PSs.nox ?_, ?_⟩)
  · obtain ⟨_, rfl, _⟩ := h
    rfl
  · exact (pss_one (ps_ret (pe_and (pe_callB call_isi (by rfl) T.b_isinstance (by decide +kernel) (pa_cons (pv 0) (pa_cons (pe_bltn (v := .ty "int") (by rfl) T.b_int (by decide +kernel) rfl) pa_nil))) (pe_one (pe_not (pe_callB call_isi (by rfl) T.b_isinstance (by decide +kernel) (pa_cons (pv 0) (pa_cons (pe_bltn (v := .ty "bool") (by rfl) T.b_bool (by decide +kernel) rfl) pa_nil))))))))
  · obtain ⟨_, rfl, _⟩ := id h
    exact pure_is_whole h
theorem ok_is_day (T : Txt K mg) {f : Addr} {fd : FuncData} (F : FunD K "is_day" "is_day" (defArgs s_is_day) (defBody s_is_day) (defScope s_is_day) [] [] f fd) (c_is_whole : Y.Cal P w K mg base CX0 1 "is_whole" (sp_is_whole K) []) : FnG P w K mg base CX0 2 f fd ["thing"] (sp_is_day K) := by
  refine g_def F sc_is_day (fun vs H Q E h => ?_) (fun cdv A outer s H vs Q E hr h => ⟨t_is_day K, PSs.nox ?_, ?_⟩)
  · obtain ⟨_, rfl, _⟩ := h
    rfl
  · exact (pss_one (ps_ret (pe_and (Y.pe_c c_is_whole hr (by decide) rfl pass0 (pa_cons (pv 0) pa_nil)) (pe_one (pe_chain op_le op_le pe_int (pv 0) (pe_glob rfl T.c_LAST_DAY.choose_spec.1 T.c_LAST_DAY.choose_spec.2))))))
  · obtain ⟨_, rfl, _⟩ := id h
    exact pure_is_day h
theorem ok_is_two_days (T : Txt K mg) {f : Addr} {fd : FuncData} (F : FunD K "is_two_days" "is_two_days" (defArgs s_is_two_days) (defBody s_is_two_days) (defScope s_is_two_days) [] [] f fd) (c_is_day : Y.Cal P w K mg base CX0 2 "is_day" (sp_is_day K) []) : FnG P w K mg base CX0 3 f fd ["thing"] (sp_is_two_days K) := by
  refine g_def F sc_is_two_days (fun vs H Q E h => ?_) (fun cdv A outer s H vs Q E hr h => ⟨t_is_two_days K, PSs.nox ?_, ?_⟩)
  · obtain ⟨_, rfl, _⟩ := h
    rfl
  · exact (pss_one (ps_ret (pe_and (pe_callB call_isi (by rfl) T.b_isinstance (by decide +kernel) (pa_cons (pv 0) (pa_cons (pe_bltn (v := .ty "tuple") (by rfl) T.b_tuple (by decide +kernel) rfl) pa_nil))) (pe_and (pe_cmpR op_eq (pe_callB call_len_seq (by rfl) T.b_len (by decide +kernel) (pa_cons (pv 0) pa_nil)) pe_int (nomark _)) (pe_and (Y.pe_c c_is_day hr (by decide) rfl pass0 (pa_cons (pe_ix ix_tup (pv 0) pe_int (fun _ _ => rfl)) pa_nil)) (pe_one (Y.pe_c c_is_day hr (by decide) rfl pass0 (pa_cons (pe_ix ix_tup (pv 0) pe_int (fun _ _ => rfl)) pa_nil))))))))
  · obtain ⟨_, rfl, _⟩ := id h
    exact pure_is_two_days h
theorem ok_is_stretch (T : Txt K mg) {f : Addr} {fd : FuncData} (F : FunD K "is_stretch" "is_stretch" (defArgs s_is_stretch) (defBody s_is_stretch) (defScope s_is_stretch) [] [] f fd) (c_is_two_days : Y.Cal P w K mg base CX0 3 "is_two_days" (sp_is_two_days K) []) : FnG P w K mg base CX0 4 f fd ["thing"] (sp_is_stretch K) := by
  refine g_def F sc_is_stretch (fun vs H Q E h => ?_) (fun cdv A outer s H vs Q E hr h => ⟨t_is_stretch K, PSs.nox ?_, ?_⟩)
  · obtain ⟨_, rfl, _⟩ := h
    rfl
  · exact (pss_one (ps_ret (pe_and (Y.pe_c c_is_two_days hr (by decide) rfl pass0 (pa_cons (pv 0) pa_nil)) (pe_one (pe_cmpR op_le (pe_ix ix_tup (pv 0) pe_int (fun _ _ => rfl)) (pe_ix ix_tup (pv 0) pe_int (fun _ _ => rfl)) (nomark _))))))
  · obtain ⟨_, rfl, _⟩ := id h
    exact pure_is_stretch h
theorem ok_Rule_init (T : Txt K mg) {f : Addr} {fd : FuncData} (F : FunD K "__init__" "Rule.__init__" (defArgs s_Rule_init) (defBody s_Rule_init) (defScope s_Rule_init) [] [] f fd)  : FnG P w K mg base CX0 1 f fd ["self", "first", "last", "worth"] (sp_Rule_init K) := by
  refine g_def F sc_Rule_init (fun vs H Q E h => ?_) (fun cdv A outer s H vs Q E hr h => ⟨t_Rule_init K, PSs.nox ?_, ?_⟩)
  · obtain ⟨_, _, _, _, rfl, _⟩ := h
    rfl
  · exact (pss_cons (ps_fld (pv 0) (pv 1) rfl)
  (pss_cons (ps_fld (pv 0) (pv 2) rfl)
  (pss_one (ps_fld (pv 0) (pv 3) rfl))))
  · obtain ⟨_, _, _, _, rfl, _⟩ := id h
    exact pure_Rule_init h
theorem ok_made (T : Txt K mg) {f : Addr} {fd : FuncData} (F : FunD K "made" "made" (defArgs s_made) (defBody s_made) (defScope s_made) [] [] f fd) (c_Price : Y.Mak P w K mg base CX0 1 "Price" (He.ga K "Price") (sp_Rule_init K) []) (c_Come : Y.Mak P w K mg base CX0 1 "Come" (He.ga K "Come") (sp_Rule_init K) []) (c_Go : Y.Mak P w K mg base CX0 1 "Go" (He.ga K "Go") (sp_Rule_init K) []) (c_Least : Y.Mak P w K mg base CX0 1 "Least" (He.ga K "Least") (sp_Rule_init K) []) (c_Most : Y.Mak P w K mg base CX0 1 "Most" (He.ga K "Most") (sp_Rule_init K) []) (c_Deal : Y.Mak P w K mg base CX0 1 "Deal" (He.ga K "Deal") (sp_Rule_init K) []) (c_Fee : Y.Mak P w K mg base CX0 1 "Fee" (He.ga K "Fee") (sp_Rule_init K) []) : FnG P w K mg base CX0 3 f fd ["word", "first", "last", "worth"] (sp_made K) := by
  refine g_def F sc_made (fun vs H Q E h => ?_) (fun cdv A outer s H vs Q E hr h => ⟨t_made K, PSs.nox ?_, ?_⟩)
  · obtain ⟨_, _, _, _, rfl, _⟩ := h
    rfl
  · exact (pss_cons (ps_if (pt_cmpR op_eq (pv 0) pe_str (nomark _)) (pss_one (ps_ret (Y.pe_k c_Price hr (by decide) rfl pass0 (pa_cons (pv 1) (pa_cons (pv 2) (pa_cons (pv 3) pa_nil)))))) pss_nil)
  (pss_cons (ps_if (pt_cmpR op_eq (pv 0) pe_str (nomark _)) (pss_one (ps_ret (Y.pe_k c_Come hr (by decide) rfl pass0 (pa_cons (pv 1) (pa_cons (pv 2) (pa_cons (pv 3) pa_nil)))))) pss_nil)
  (pss_cons (ps_if (pt_cmpR op_eq (pv 0) pe_str (nomark _)) (pss_one (ps_ret (Y.pe_k c_Go hr (by decide) rfl pass0 (pa_cons (pv 1) (pa_cons (pv 2) (pa_cons (pv 3) pa_nil)))))) pss_nil)
  (pss_cons (ps_if (pt_cmpR op_eq (pv 0) pe_str (nomark _)) (pss_one (ps_ret (Y.pe_k c_Least hr (by decide) rfl pass0 (pa_cons (pv 1) (pa_cons (pv 2) (pa_cons (pv 3) pa_nil)))))) pss_nil)
  (pss_cons (ps_if (pt_cmpR op_eq (pv 0) pe_str (nomark _)) (pss_one (ps_ret (Y.pe_k c_Most hr (by decide) rfl pass0 (pa_cons (pv 1) (pa_cons (pv 2) (pa_cons (pv 3) pa_nil)))))) pss_nil)
  (pss_cons (ps_if (pt_cmpR op_eq (pv 0) pe_str (nomark _)) (pss_one (ps_ret (Y.pe_k c_Deal hr (by decide) rfl pass0 (pa_cons (pv 1) (pa_cons (pv 2) (pa_cons (pv 3) pa_nil)))))) pss_nil)
  (pss_one (ps_ret (Y.pe_k c_Fee hr (by decide) rfl pass0 (pa_cons (pv 1) (pa_cons (pv 2) (pa_cons (pv 3) pa_nil))))))))))))
  · obtain ⟨_, _, _, _, rfl, _⟩ := id h
    exact pure_made h
theorem ok_is_coins (T : Txt K mg) {f : Addr} {fd : FuncData} (F : FunD K "is_coins" "is_coins" (defArgs s_is_coins) (defBody s_is_coins) (defScope s_is_coins) [] [] f fd) (c_is_whole : Y.Cal P w K mg base CX0 1 "is_whole" (sp_is_whole K) []) : FnG P w K mg base CX0 2 f fd ["thing"] (sp_is_coins K) := by
  refine g_def F sc_is_coins (fun vs H Q E h => ?_) (fun cdv A outer s H vs Q E hr h => ⟨t_is_coins K, PSs.nox ?_, ?_⟩)
  · obtain ⟨_, rfl, _⟩ := h
    rfl
  · exact (pss_one (ps_ret (pe_and (Y.pe_c c_is_whole hr (by decide) rfl pass0 (pa_cons (pv 0) pa_nil)) (pe_one (pe_chain op_le op_le pe_int (pv 0) (pe_glob rfl T.c_MOST_COINS.choose_spec.1 T.c_MOST_COINS.choose_spec.2))))))
  · obtain ⟨_, rfl, _⟩ := id h
    exact pure_is_coins h
theorem ok_Price_fits (T : Txt K mg) {f : Addr} {fd : FuncData} (F : FunD K "fits" "Price.fits" (defArgs s_Price_fits) (defBody s_Price_fits) (defScope s_Price_fits) [] [] f fd) (c_is_coins : Y.Cal P w K mg base CX0 2 "is_coins" (sp_is_coins K) []) : FnG P w K mg base CX0 3 f fd ["self"] (sp_Price_fits K) := by
  refine g_def F sc_Price_fits (fun vs H Q E h => ?_) (fun cdv A outer s H vs Q E hr h => ⟨t_Price_fits K, PSs.nox ?_, ?_⟩)
  · obtain ⟨_, rfl, _⟩ := h
    rfl
  · exact (pss_one (ps_ret (pe_or (pe_cmpR op_isN (pe_fld (pv 0) rfl) pe_non (nomark _)) (pe_one (Y.pe_c c_is_coins hr (by decide) rfl pass0 (pa_cons (pe_fld (pv 0) rfl) pa_nil))))))
  · obtain ⟨_, rfl, _⟩ := id h
    exact pure_Price_fits h
theorem ok_Come_fits (T : Txt K mg) {f : Addr} {fd : FuncData} (F : FunD K "fits" "Come.fits" (defArgs s_Come_fits) (defBody s_Come_fits) (defScope s_Come_fits) [] [] f fd)  : FnG P w K mg base CX0 1 f fd ["self"] (sp_Come_fits K) := by
  refine g_def F sc_Come_fits (fun vs H Q E h => ?_) (fun cdv A outer s H vs Q E hr h => ⟨t_Come_fits K, PSs.nox ?_, ?_⟩)
  · obtain ⟨_, rfl, _⟩ := h
    rfl
  · exact (pss_one (ps_ret (pe_callB call_isi (by rfl) T.b_isinstance (by decide +kernel) (pa_cons (pe_fld (pv 0) rfl) (pa_cons (pe_bltn (v := .ty "bool") (by rfl) T.b_bool (by decide +kernel) rfl) pa_nil)))))
  · obtain ⟨_, rfl, _⟩ := id h
    exact pure_Come_fits h
theorem ok_Go_fits (T : Txt K mg) {f : Addr} {fd : FuncData} (F : FunD K "fits" "Go.fits" (defArgs s_Go_fits) (defBody s_Go_fits) (defScope s_Go_fits) [] [] f fd)  : FnG P w K mg base CX0 1 f fd ["self"] (sp_Go_fits K) := by
  refine g_def F sc_Go_fits (fun vs H Q E h => ?_) (fun cdv A outer s H vs Q E hr h => ⟨t_Go_fits K, PSs.nox ?_, ?_⟩)
  · obtain ⟨_, rfl, _⟩ := h
    rfl
  · exact (pss_one (ps_ret (pe_callB call_isi (by rfl) T.b_isinstance (by decide +kernel) (pa_cons (pe_fld (pv 0) rfl) (pa_cons (pe_bltn (v := .ty "bool") (by rfl) T.b_bool (by decide +kernel) rfl) pa_nil)))))
  · obtain ⟨_, rfl, _⟩ := id h
    exact pure_Go_fits h
theorem ok_is_nights (T : Txt K mg) {f : Addr} {fd : FuncData} (F : FunD K "is_nights" "is_nights" (defArgs s_is_nights) (defBody s_is_nights) (defScope s_is_nights) [] [] f fd) (c_is_whole : Y.Cal P w K mg base CX0 1 "is_whole" (sp_is_whole K) []) : FnG P w K mg base CX0 2 f fd ["thing"] (sp_is_nights K) := by
  refine g_def F sc_is_nights (fun vs H Q E h => ?_) (fun cdv A outer s H vs Q E hr h => ⟨t_is_nights K, PSs.nox ?_, ?_⟩)
  · obtain ⟨_, rfl, _⟩ := h
    rfl
  · exact (pss_one (ps_ret (pe_and (Y.pe_c c_is_whole hr (by decide) rfl pass0 (pa_cons (pv 0) pa_nil)) (pe_one (pe_chain op_le op_le pe_int (pv 0) (pe_glob rfl T.c_MOST_NIGHTS.choose_spec.1 T.c_MOST_NIGHTS.choose_spec.2))))))
  · obtain ⟨_, rfl, _⟩ := id h
    exact pure_is_nights h
theorem ok_Least_fits (T : Txt K mg) {f : Addr} {fd : FuncData} (F : FunD K "fits" "Least.fits" (defArgs s_Least_fits) (defBody s_Least_fits) (defScope s_Least_fits) [] [] f fd) (c_is_nights : Y.Cal P w K mg base CX0 2 "is_nights" (sp_is_nights K) []) : FnG P w K mg base CX0 3 f fd ["self"] (sp_Least_fits K) := by
  refine g_def F sc_Least_fits (fun vs H Q E h => ?_) (fun cdv A outer s H vs Q E hr h => ⟨t_Least_fits K, PSs.nox ?_, ?_⟩)
  · obtain ⟨_, rfl, _⟩ := h
    rfl
  · exact (pss_one (ps_ret (Y.pe_c c_is_nights hr (by decide) rfl pass0 (pa_cons (pe_fld (pv 0) rfl) pa_nil))))
  · obtain ⟨_, rfl, _⟩ := id h
    exact pure_Least_fits h
theorem ok_Most_fits (T : Txt K mg) {f : Addr} {fd : FuncData} (F : FunD K "fits" "Most.fits" (defArgs s_Most_fits) (defBody s_Most_fits) (defScope s_Most_fits) [] [] f fd) (c_is_nights : Y.Cal P w K mg base CX0 2 "is_nights" (sp_is_nights K) []) : FnG P w K mg base CX0 3 f fd ["self"] (sp_Most_fits K) := by
  refine g_def F sc_Most_fits (fun vs H Q E h => ?_) (fun cdv A outer s H vs Q E hr h => ⟨t_Most_fits K, PSs.nox ?_, ?_⟩)
  · obtain ⟨_, rfl, _⟩ := h
    rfl
  · exact (pss_one (ps_ret (Y.pe_c c_is_nights hr (by decide) rfl pass0 (pa_cons (pe_fld (pv 0) rfl) pa_nil))))
  · obtain ⟨_, rfl, _⟩ := id h
    exact pure_Most_fits h
theorem ok_Deal_fits (T : Txt K mg) {f : Addr} {fd : FuncData} (F : FunD K "fits" "Deal.fits" (defArgs s_Deal_fits) (defBody s_Deal_fits) (defScope s_Deal_fits) [] [] f fd) (c_is_nights : Y.Cal P w K mg base CX0 2 "is_nights" (sp_is_nights K) []) (c_is_whole : Y.Cal P w K mg base CX0 1 "is_whole" (sp_is_whole K) []) : FnG P w K mg base CX0 3 f fd ["self"] (sp_Deal_fits K) := by
  refine g_def F sc_Deal_fits (fun vs H Q E h => ?_) (fun cdv A outer s H vs Q E hr h => ⟨t_Deal_fits K, PSs.nox ?_, ?_⟩)
  · obtain ⟨_, rfl, _⟩ := h
    rfl
  · exact (pss_cons (ps_if (pt_cmpR op_isN (pe_fld (pv 0) rfl) pe_non (nomark _)) (pss_one (ps_ret pe_bl)) pss_nil)
  (pss_cons (ps_if (PW.pt (pw_or (pt_not (pt_val (pe_callB call_isi (by rfl) T.b_isinstance (by decide +kernel) (pa_cons (pe_fld (pv 0) rfl) (pa_cons (pe_bltn (v := .ty "tuple") (by rfl) T.b_tuple (by decide +kernel) rfl) pa_nil))))) (pw_or1 (pt_cmpR op_ne (pe_callB call_len (by rfl) T.b_len (by decide +kernel) (pa_cons (pe_fld (pv 0) rfl) pa_nil)) pe_int (nomark _))))) (pss_one (ps_ret pe_bl)) pss_nil)
  (pss_cons (ps_asg (pe_fld (pv 0) rfl) (pg_tup (by rfl) (pgs_cons (pg_name (i := 1) sc_Deal_fits.nd rfl (Or.inl rfl)) (pgs_cons (pg_name (i := 2) sc_Deal_fits.nd rfl (Or.inl rfl)) pgs_nil))))
  (pss_one (ps_ret (pe_and (Y.pe_c c_is_nights hr (by decide) rfl pass0 (pa_cons (pv 1) pa_nil)) (pe_and (Y.pe_c c_is_whole hr (by decide) rfl pass0 (pa_cons (pv 2) pa_nil)) (pe_one (pe_chain op_le op_lt pe_int (pv 2) (pv 1))))))))))
  · obtain ⟨_, rfl, _⟩ := id h
    exact pure_Deal_fits h
theorem ok_Fee_fits (T : Txt K mg) {f : Addr} {fd : FuncData} (F : FunD K "fits" "Fee.fits" (defArgs s_Fee_fits) (defBody s_Fee_fits) (defScope s_Fee_fits) [] [] f fd) (c_is_coins : Y.Cal P w K mg base CX0 2 "is_coins" (sp_is_coins K) []) : FnG P w K mg base CX0 3 f fd ["self"] (sp_Fee_fits K) := by
  refine g_def F sc_Fee_fits (fun vs H Q E h => ?_) (fun cdv A outer s H vs Q E hr h => ⟨t_Fee_fits K, PSs.nox ?_, ?_⟩)
  · obtain ⟨_, rfl, _⟩ := h
    rfl
  · exact (pss_one (ps_ret (Y.pe_c c_is_coins hr (by decide) rfl pass0 (pa_cons (pe_fld (pv 0) rfl) pa_nil))))
  · obtain ⟨_, rfl, _⟩ := id h
    exact pure_Fee_fits h
theorem ok_rule_of (T : Txt K mg) {f : Addr} {fd : FuncData} (F : FunD K "rule_of" "rule_of" (defArgs s_rule_of) (defBody s_rule_of) (defScope s_rule_of) [] [] f fd) (c_is_stretch : Y.Cal P w K mg base CX0 4 "is_stretch" (sp_is_stretch K) []) (c_made : Y.Cal P w K mg base CX0 3 "made" (sp_made K) []) (c_Price_fits : Y.Met P w K mg base CX0 3 (He.ga K "Price") "fits" (sp_Price_fits K) []) (c_Come_fits : Y.Met P w K mg base CX0 1 (He.ga K "Come") "fits" (sp_Come_fits K) []) (c_Go_fits : Y.Met P w K mg base CX0 1 (He.ga K "Go") "fits" (sp_Go_fits K) []) (c_Least_fits : Y.Met P w K mg base CX0 3 (He.ga K "Least") "fits" (sp_Least_fits K) []) (c_Most_fits : Y.Met P w K mg base CX0 3 (He.ga K "Most") "fits" (sp_Most_fits K) []) (c_Deal_fits : Y.Met P w K mg base CX0 3 (He.ga K "Deal") "fits" (sp_Deal_fits K) []) (c_Fee_fits : Y.Met P w K mg base CX0 3 (He.ga K "Fee") "fits" (sp_Fee_fits K) []) : FnG P w K mg base CX0 5 f fd ["thing"] (sp_rule_of K) := by
  refine g_def F sc_rule_of (fun vs H Q E h => ?_) (fun cdv A outer s H vs Q E hr h => ⟨t_rule_of K, PSs.nox ?_, ?_⟩)
  · obtain ⟨_, rfl, _⟩ := h
    rfl
  · exact (pss_cons (ps_if (PW.pt (pw_or (pt_not (pt_val (pe_callB call_isi (by rfl) T.b_isinstance (by decide +kernel) (pa_cons (pv 0) (pa_cons (pe_bltn (v := .ty "tuple") (by rfl) T.b_tuple (by decide +kernel) rfl) pa_nil))))) (pw_or (pt_cmpR op_ne (pe_callB call_len_seq (by rfl) T.b_len (by decide +kernel) (pa_cons (pv 0) pa_nil)) pe_int (nomark _)) (pw_or (pt_not (pt_val (pe_callB call_isi (by rfl) T.b_isinstance (by decide +kernel) (pa_cons (pe_ix ix_tup (pv 0) pe_int (fun _ _ => rfl)) (pa_cons (pe_bltn (v := .ty "str") (by rfl) T.b_str (by decide +kernel) rfl) pa_nil))))) (pw_or1 (pt_cmpR op_notIn_seq (pe_ix ix_tup (pv 0) pe_int (fun _ _ => rfl)) (pe_glob rfl T.c_WORDS.choose_spec.1 T.c_WORDS.choose_spec.2) (by rfl))))))) (pss_one (ps_ret pe_non)) pss_nil)
  (pss_cons (ps_if (pt_not (pt_val (Y.pe_c c_is_stretch hr (by decide) rfl pass0 (pa_cons (pe_tup (pa_cons (pe_ix ix_tup (pv 0) pe_int (fun _ _ => rfl)) (pa_cons (pe_ix ix_tup (pv 0) pe_int (fun _ _ => rfl)) pa_nil))) pa_nil)))) (pss_one (ps_ret pe_non)) pss_nil)
  (pss_cons (ps_set (i := 1) sc_rule_of.nd rfl (Or.inl rfl) (Y.pe_c c_made hr (by decide) rfl pass0 (pa_cons (pe_ix ix_tup (pv 0) pe_int (fun _ _ => rfl)) (pa_cons (pe_ix ix_tup (pv 0) pe_int (fun _ _ => rfl)) (pa_cons (pe_ix ix_tup (pv 0) pe_int (fun _ _ => rfl)) (pa_cons (pe_ix ix_tup (pv 0) pe_int (fun _ _ => rfl)) pa_nil))))))
  (pss_cons (ps_if (pt_not (pt_val (Y.pe_rule fun w => match w with | .price => Y.pe_m0 c_Price_fits hr (by decide) pass0 (pv 1) | .come => Y.pe_m0 c_Come_fits hr (by decide) pass0 (pv 1) | .go => Y.pe_m0 c_Go_fits hr (by decide) pass0 (pv 1) | .least => Y.pe_m0 c_Least_fits hr (by decide) pass0 (pv 1) | .most => Y.pe_m0 c_Most_fits hr (by decide) pass0 (pv 1) | .deal => Y.pe_m0 c_Deal_fits hr (by decide) pass0 (pv 1) | .fee => Y.pe_m0 c_Fee_fits hr (by decide) pass0 (pv 1)))) (pss_one (ps_ret pe_non)) pss_nil)
  (pss_one (ps_ret (pv 1)))))))
  · obtain ⟨_, rfl, _⟩ := id h
    exact pure_rule_of h
theorem ok_Price_word (T : Txt K mg) {f : Addr} {fd : FuncData} (F : FunD K "word" "Price.word" (defArgs s_Price_word) (defBody s_Price_word) (defScope s_Price_word) [] [] f fd)  : FnG P w K mg base CX0 1 f fd ["self"] (sp_Price_word K) := by
  refine g_def F sc_Price_word (fun vs H Q E h => ?_) (fun cdv A outer s H vs Q E hr h => ⟨t_Price_word K, PSs.nox ?_, ?_⟩)
  · obtain ⟨_, rfl, _⟩ := h
    rfl
  · exact (pss_one (ps_ret pe_str))
  · obtain ⟨_, rfl, _⟩ := id h
    exact pure_Price_word h
theorem ok_Come_word (T : Txt K mg) {f : Addr} {fd : FuncData} (F : FunD K "word" "Come.word" (defArgs s_Come_word) (defBody s_Come_word) (defScope s_Come_word) [] [] f fd)  : FnG P w K mg base CX0 1 f fd ["self"] (sp_Come_word K) := by
  refine g_def F sc_Come_word (fun vs H Q E h => ?_) (fun cdv A outer s H vs Q E hr h => ⟨t_Come_word K, PSs.nox ?_, ?_⟩)
  · obtain ⟨_, rfl, _⟩ := h
    rfl
  · exact (pss_one (ps_ret pe_str))
  · obtain ⟨_, rfl, _⟩ := id h
    exact pure_Come_word h
theorem ok_Go_word (T : Txt K mg) {f : Addr} {fd : FuncData} (F : FunD K "word" "Go.word" (defArgs s_Go_word) (defBody s_Go_word) (defScope s_Go_word) [] [] f fd)  : FnG P w K mg base CX0 1 f fd ["self"] (sp_Go_word K) := by
  refine g_def F sc_Go_word (fun vs H Q E h => ?_) (fun cdv A outer s H vs Q E hr h => ⟨t_Go_word K, PSs.nox ?_, ?_⟩)
  · obtain ⟨_, rfl, _⟩ := h
    rfl
  · exact (pss_one (ps_ret pe_str))
  · obtain ⟨_, rfl, _⟩ := id h
    exact pure_Go_word h
theorem ok_Least_word (T : Txt K mg) {f : Addr} {fd : FuncData} (F : FunD K "word" "Least.word" (defArgs s_Least_word) (defBody s_Least_word) (defScope s_Least_word) [] [] f fd)  : FnG P w K mg base CX0 1 f fd ["self"] (sp_Least_word K) := by
  refine g_def F sc_Least_word (fun vs H Q E h => ?_) (fun cdv A outer s H vs Q E hr h => ⟨t_Least_word K, PSs.nox ?_, ?_⟩)
  · obtain ⟨_, rfl, _⟩ := h
    rfl
  · exact (pss_one (ps_ret pe_str))
  · obtain ⟨_, rfl, _⟩ := id h
    exact pure_Least_word h
theorem ok_Most_word (T : Txt K mg) {f : Addr} {fd : FuncData} (F : FunD K "word" "Most.word" (defArgs s_Most_word) (defBody s_Most_word) (defScope s_Most_word) [] [] f fd)  : FnG P w K mg base CX0 1 f fd ["self"] (sp_Most_word K) := by
  refine g_def F sc_Most_word (fun vs H Q E h => ?_) (fun cdv A outer s H vs Q E hr h => ⟨t_Most_word K, PSs.nox ?_, ?_⟩)
  · obtain ⟨_, rfl, _⟩ := h
    rfl
  · exact (pss_one (ps_ret pe_str))
  · obtain ⟨_, rfl, _⟩ := id h
    exact pure_Most_word h
theorem ok_Deal_word (T : Txt K mg) {f : Addr} {fd : FuncData} (F : FunD K "word" "Deal.word" (defArgs s_Deal_word) (defBody s_Deal_word) (defScope s_Deal_word) [] [] f fd)  : FnG P w K mg base CX0 1 f fd ["self"] (sp_Deal_word K) := by
  refine g_def F sc_Deal_word (fun vs H Q E h => ?_) (fun cdv A outer s H vs Q E hr h => ⟨t_Deal_word K, PSs.nox ?_, ?_⟩)
  · obtain ⟨_, rfl, _⟩ := h
    rfl
  · exact (pss_one (ps_ret pe_str))
  · obtain ⟨_, rfl, _⟩ := id h
    exact pure_Deal_word h
theorem ok_Fee_word (T : Txt K mg) {f : Addr} {fd : FuncData} (F : FunD K "word" "Fee.word" (defArgs s_Fee_word) (defBody s_Fee_word) (defScope s_Fee_word) [] [] f fd)  : FnG P w K mg base CX0 1 f fd ["self"] (sp_Fee_word K) := by
  refine g_def F sc_Fee_word (fun vs H Q E h => ?_) (fun cdv A outer s H vs Q E hr h => ⟨t_Fee_word K, PSs.nox ?_, ?_⟩)
  · obtain ⟨_, rfl, _⟩ := h
    rfl
  · exact (pss_one (ps_ret pe_str))
  · obtain ⟨_, rfl, _⟩ := id h
    exact pure_Fee_word h
theorem ok_Book_init (T : Txt K mg) {f : Addr} {fd : FuncData} (F : FunD K "__init__" "Book.__init__" (defArgs s_Book_init) (defBody s_Book_init) (defScope s_Book_init) [.non] [] f fd) (c_rule_of : Y.Cal P w K mg base CX0 5 "rule_of" (sp_rule_of K) []) (c_Price_word : Y.Met P w K mg base CX0 1 (He.ga K "Price") "word" (sp_Price_word K) []) (c_Come_word : Y.Met P w K mg base CX0 1 (He.ga K "Come") "word" (sp_Come_word K) []) (c_Go_word : Y.Met P w K mg base CX0 1 (He.ga K "Go") "word" (sp_Go_word K) []) (c_Least_word : Y.Met P w K mg base CX0 1 (He.ga K "Least") "word" (sp_Least_word K) []) (c_Most_word : Y.Met P w K mg base CX0 1 (He.ga K "Most") "word" (sp_Most_word K) []) (c_Deal_word : Y.Met P w K mg base CX0 1 (He.ga K "Deal") "word" (sp_Deal_word K) []) (c_Fee_word : Y.Met P w K mg base CX0 1 (He.ga K "Fee") "word" (sp_Fee_word K) []) : FnG P w K mg base CX0 6 f fd ["self", "rules"] (sp_Book_init K) := by
  refine g_def F sc_Book_init (fun vs H Q E h => ?_) (fun cdv A outer s H vs Q E hr h => ⟨t_Book_init K, PSs.nox ?_, ?_⟩)
  · obtain ⟨_, _, rfl, _⟩ := h
    rfl
  · exact (pss_cons (ps_set (i := 2) sc_Book_init.nd rfl (Or.inl rfl) (pe_lst pa_nil))
  (pss_cons (ps_if (pt_cmpR op_notN (pv 1) pe_non (nomark _)) (pss_one (ps_set (i := 2) sc_Book_init.nd rfl (Or.inl rfl) (pe_callTy call_list_of (by rfl) T.b_list (by decide +kernel) (pa_cons (pv 1) pa_nil)))) pss_nil)
  (pss_cons (ps_fld (pv 0) (pe_lst pa_nil) rfl)
  (pss_cons (ps_fld (pv 0) pe_dnewK rfl)
  (pss_cons (ps_for PassesOwn.never rfl (pi_enum (by rfl) T.b_enumerate (pa_cons (pv 2) pa_nil)) (pg_tup (by rfl) (pgs_cons (pg_name (i := 3) sc_Book_init.nd rfl (Or.inl rfl)) (pgs_cons (pg_name (i := 4) sc_Book_init.nd rfl (Or.inl rfl)) pgs_nil))) (pss_cons (ps_set (i := 5) sc_Book_init.nd rfl (Or.inl rfl) (Y.pe_c c_rule_of hr (by decide) rfl pass0 (pa_cons (pv 4) pa_nil)))
  (pss_cons (ps_if (pt_cmpR op_isN (pv 5) pe_non (nomark _)) (pss_one Y.ps_never) pss_nil)
  (pss_cons (ps_expr (pe_bm PySem.F.plainAttrs_list PySem.F.slot_list_append PySem.F.type_list_append mt_append (pe_fld (pv 0) rfl) (pa_cons (pv 5) pa_nil)))
  (pss_one (ps_expr (pe_bm PySem.F.plainAttrs_list PySem.F.slot_list_insert PySem.F.type_list_insert mt_insert (pe_dsetd (pe_fld (pv 0) rfl) (Y.pe_rule fun w => match w with | .price => Y.pe_m0 c_Price_word hr (by decide) pass0 (pv 5) | .come => Y.pe_m0 c_Come_word hr (by decide) pass0 (pv 5) | .go => Y.pe_m0 c_Go_word hr (by decide) pass0 (pv 5) | .least => Y.pe_m0 c_Least_word hr (by decide) pass0 (pv 5) | .most => Y.pe_m0 c_Most_word hr (by decide) pass0 (pv 5) | .deal => Y.pe_m0 c_Deal_word hr (by decide) pass0 (pv 5) | .fee => Y.pe_m0 c_Fee_word hr (by decide) pass0 (pv 5)) (pe_lst pa_nil) ⟨by rfl, by rfl, by rfl, by rfl⟩) (pa_cons pe_int (pa_cons (pv 5) pa_nil)))))))))
  (pss_one (ps_if (pt_cmpR op_gt (pe_callB call_len_seq (by rfl) T.b_len (by decide +kernel) (pa_cons (pv 2) pa_nil)) (pe_glob rfl T.c_MOST_RULES.choose_spec.1 T.c_MOST_RULES.choose_spec.2) (nomark _)) (pss_one Y.ps_never) pss_nil)))))))
  · obtain ⟨_, _, rfl, _⟩ := id h
    exact pure_Book_init h
theorem ok_Lbooks (T : Txt K mg) {f : Addr} {fd : FuncData} (F : FunD K "_law_books" "_law_books" (defArgs s_Lbooks) (defBody s_Lbooks) (defScope s_Lbooks) [] [] f fd) (c_Ldraw : Y.Cal P w K mg base CX0 1 "_law_draw" (sp_Ldraw K) []) (c_Lrules : Y.Cal P w K mg base CX0 5 "_law_rules" (sp_Lrules K) []) (c_Book : Y.Mak P w K mg base CX0 6 "Book" (He.ga K "Book") (sp_Book_init K) []) : FnG P w K mg base CX0 8 f fd ["_law_tape_here", "_law_base", "_law_days"] (sp_Lbooks K) := by
  refine g_def F sc_Lbooks (fun vs H Q E h => ?_) (fun cdv A outer s H vs Q E hr h => ⟨t_Lbooks K, PSs.nox ?_, ?_⟩)
  · obtain ⟨_, _, _, rfl, _⟩ := h
    rfl
  · exact (pss_cons (ps_set (i := 3) sc_Lbooks.nd rfl (Or.inl rfl) (pe_lst pa_nil))
  (pss_cons (ps_for PassesOwn.never rfl (pi_range1 rfl T.b_range (pa_cons (pe_op op_add pe_int (Y.pe_c c_Ldraw hr (by decide) rfl pass0 (pa_cons (pv 0) (pa_cons pe_int pa_nil)))) pa_nil)) (pg_name (i := 4) sc_Lbooks.nd rfl (Or.inl rfl)) (pss_one (ps_expr (pe_bm PySem.F.plainAttrs_list PySem.F.slot_list_append PySem.F.type_list_append mt_append (pv 3) (pa_cons (Y.pe_k c_Book hr (by decide) rfl pass0 (pa_cons (pe_slice sl_list (Y.pe_c c_Lrules hr (by decide) rfl pass0 (pa_cons (pv 0) (pa_cons (pv 1) (pa_cons (pv 2) pa_nil)))) po_none (po_some (pe_ix ix_list (pe_lst (pa_cons pe_int (pa_cons pe_int pa_nil))) (Y.pe_c c_Ldraw hr (by decide) rfl pass0 (pa_cons (pv 0) (pa_cons pe_int pa_nil))) (fun _ _ => rfl)))) pa_nil)) pa_nil)))))
  (pss_one (ps_ret (pv 3)))))
  · obtain ⟨_, _, _, rfl, _⟩ := id h
    exact pure_Lbooks h
theorem ok_Rule_told (T : Txt K mg) {f : Addr} {fd : FuncData} (F : FunD K "told" "Rule.told" (defArgs s_Rule_told) (defBody s_Rule_told) (defScope s_Rule_told) [] [] f fd) (c_Price_word : Y.Met P w K mg base CX0 1 (He.ga K "Price") "word" (sp_Price_word K) []) (c_Come_word : Y.Met P w K mg base CX0 1 (He.ga K "Come") "word" (sp_Come_word K) []) (c_Go_word : Y.Met P w K mg base CX0 1 (He.ga K "Go") "word" (sp_Go_word K) []) (c_Least_word : Y.Met P w K mg base CX0 1 (He.ga K "Least") "word" (sp_Least_word K) []) (c_Most_word : Y.Met P w K mg base CX0 1 (He.ga K "Most") "word" (sp_Most_word K) []) (c_Deal_word : Y.Met P w K mg base CX0 1 (He.ga K "Deal") "word" (sp_Deal_word K) []) (c_Fee_word : Y.Met P w K mg base CX0 1 (He.ga K "Fee") "word" (sp_Fee_word K) []) : FnG P w K mg base CX0 2 f fd ["self"] (sp_Rule_told K) := by
  refine g_def F sc_Rule_told (fun vs H Q E h => ?_) (fun cdv A outer s H vs Q E hr h => ⟨t_Rule_told K, PSs.nox ?_, ?_⟩)
  · obtain ⟨_, rfl, _⟩ := h
    rfl
  · exact (pss_one (ps_ret (pe_tup (pa_cons (Y.pe_rule fun w => match w with | .price => Y.pe_m0 c_Price_word hr (by decide) pass0 (pv 0) | .come => Y.pe_m0 c_Come_word hr (by decide) pass0 (pv 0) | .go => Y.pe_m0 c_Go_word hr (by decide) pass0 (pv 0) | .least => Y.pe_m0 c_Least_word hr (by decide) pass0 (pv 0) | .most => Y.pe_m0 c_Most_word hr (by decide) pass0 (pv 0) | .deal => Y.pe_m0 c_Deal_word hr (by decide) pass0 (pv 0) | .fee => Y.pe_m0 c_Fee_word hr (by decide) pass0 (pv 0)) (pa_cons (pe_fld (pv 0) rfl) (pa_cons (pe_fld (pv 0) rfl) (pa_cons (pe_fld (pv 0) rfl) pa_nil)))))))
  · obtain ⟨_, rfl, _⟩ := id h
    exact pure_Rule_told h
theorem ok_Book_rules (T : Txt K mg) {f : Addr} {fd : FuncData} (F : FunD K "rules" "Book.rules" (defArgs s_Book_rules) (defBody s_Book_rules) (defScope s_Book_rules) [] [] f fd) (c_Price_told : Y.Met P w K mg base CX0 2 (He.ga K "Price") "told" (sp_Rule_told K) []) (c_Come_told : Y.Met P w K mg base CX0 2 (He.ga K "Come") "told" (sp_Rule_told K) []) (c_Go_told : Y.Met P w K mg base CX0 2 (He.ga K "Go") "told" (sp_Rule_told K) []) (c_Least_told : Y.Met P w K mg base CX0 2 (He.ga K "Least") "told" (sp_Rule_told K) []) (c_Most_told : Y.Met P w K mg base CX0 2 (He.ga K "Most") "told" (sp_Rule_told K) []) (c_Deal_told : Y.Met P w K mg base CX0 2 (He.ga K "Deal") "told" (sp_Rule_told K) []) (c_Fee_told : Y.Met P w K mg base CX0 2 (He.ga K "Fee") "told" (sp_Rule_told K) []) : FnG P w K mg base CX0 3 f fd ["self"] (sp_Book_rules K) := by
  refine g_def F sc_Book_rules (fun vs H Q E h => ?_) (fun cdv A outer s H vs Q E hr h => ⟨t_Book_rules K, PSs.nox ?_, ?_⟩)
  · obtain ⟨_, rfl, _⟩ := h
    rfl
  · exact (pss_one (ps_ret (pe_lc (own := [("rule", 1)]) (g := (gName 1)) (tt := tYes) rfl sc_Book_rules.nd (pi_list (pe_fld (pv 0) rfl)) (blkOk_by (own := [("rule", 1)]) (N := ["self", "rule"]) (sc := defScope s_Book_rules) (by decide +kernel)) (fun _ _ _ _ _ => (pg_name (i := 1) sc_Book_rules.nd rfl (Or.inl rfl))) (fun _ _ _ _ _ => pts_nil) (fun _ _ _ _ _ => (Y.pe_rule fun w => match w with | .price => Y.pe_m0 c_Price_told hr (by decide) pass0 (pv 1) | .come => Y.pe_m0 c_Come_told hr (by decide) pass0 (pv 1) | .go => Y.pe_m0 c_Go_told hr (by decide) pass0 (pv 1) | .least => Y.pe_m0 c_Least_told hr (by decide) pass0 (pv 1) | .most => Y.pe_m0 c_Most_told hr (by decide) pass0 (pv 1) | .deal => Y.pe_m0 c_Deal_told hr (by decide) pass0 (pv 1) | .fee => Y.pe_m0 c_Fee_told hr (by decide) pass0 (pv 1))))))
  · obtain ⟨_, rfl, _⟩ := id h
    exact pure_Book_rules h
theorem ok_worth_text (T : Txt K mg) {f : Addr} {fd : FuncData} (F : FunD K "worth_text" "worth_text" (defArgs s_worth_text) (defBody s_worth_text) (defScope s_worth_text) [] [] f fd)  : FnG P w K mg base CX0 1 f fd ["word", "worth"] (sp_worth_text K) := by
  refine g_def F sc_worth_text (fun vs H Q E h => ?_) (fun cdv A outer s H vs Q E hr h => ⟨t_worth_text K, PSs.nox ?_, ?_⟩)
  · obtain ⟨_, _, rfl, _⟩ := h
    rfl
  · exact (pss_cons (ps_if (pt_cmpR op_isN (pv 1) pe_non (nomark _)) (pss_one (ps_ret pe_str)) pss_nil)
  (pss_cons (ps_if (PW.pt (pw_or (pt_cmpR op_eq (pv 0) pe_str (nomark _)) (pw_or1 (pt_cmpR op_eq (pv 0) pe_str (nomark _))))) (pss_one (ps_ret (pe_ix ix_list (pe_lst (pa_cons pe_str (pa_cons pe_str pa_nil))) (pe_callTy call_int1 (by rfl) T.b_int (by decide +kernel) (pa_cons (pv 1) pa_nil)) (fun _ _ => rfl)))) pss_nil)
  (pss_cons (ps_if (pt_cmpR op_eq (pv 0) pe_str (nomark _)) (pss_one (ps_ret (pe_joined (PJ.cons (pe_fmt (pe_ix ix_seq (pv 1) pe_int (fun _ _ => rfl))) (PJ.cons pe_str (PJ.cons (pe_fmt (pe_ix ix_seq (pv 1) pe_int (fun _ _ => rfl))) PJ.nil)))))) pss_nil)
  (pss_one (ps_ret (pe_callTy Y.cr_strI (by rfl) T.b_str (by decide +kernel) (pa_cons (pv 1) pa_nil)))))))
  · obtain ⟨_, _, rfl, _⟩ := id h
    exact pure_worth_text h
theorem ok_rule_text (T : Txt K mg) {f : Addr} {fd : FuncData} (F : FunD K "rule_text" "rule_text" (defArgs s_rule_text) (defBody s_rule_text) (defScope s_rule_text) [] [] f fd) (c_worth_text : Y.Cal P w K mg base CX0 1 "worth_text" (sp_worth_text K) []) : FnG P w K mg base CX0 2 f fd ["rule"] (sp_rule_text K) := by
  refine g_def F sc_rule_text (fun vs H Q E h => ?_) (fun cdv A outer s H vs Q E hr h => ⟨t_rule_text K, PSs.nox ?_, ?_⟩)
  · obtain ⟨_, rfl, _⟩ := h
    rfl
  · exact (pss_cons (ps_asg (pv 0) (pg_tup (by rfl) (pgs_cons (pg_name (i := 1) sc_rule_text.nd rfl (Or.inl rfl)) (pgs_cons (pg_name (i := 2) sc_rule_text.nd rfl (Or.inl rfl)) (pgs_cons (pg_name (i := 3) sc_rule_text.nd rfl (Or.inl rfl)) (pgs_cons (pg_name (i := 4) sc_rule_text.nd rfl (Or.inl rfl)) pgs_nil))))))
  (pss_one (ps_ret (pe_joined (PJ.cons (pe_fmt (pv 1)) (PJ.cons pe_str (PJ.cons (pe_fmt (pv 2)) (PJ.cons pe_str (PJ.cons (pe_fmt (pv 3)) (PJ.cons pe_str (PJ.cons (pe_fmt (Y.pe_c c_worth_text hr (by decide) rfl pass0 (pa_cons (pv 1) (pa_cons (pv 4) pa_nil)))) PJ.nil)))))))))))
  · obtain ⟨_, rfl, _⟩ := id h
    exact pure_rule_text h
theorem ok_show_book (T : Txt K mg) {f : Addr} {fd : FuncData} (F : FunD K "show_book" "show_book" (defArgs s_show_book) (defBody s_show_book) (defScope s_show_book) [] [] f fd) (c_Book_rules : Y.Met P w K mg base CX0 3 (He.ga K "Book") "rules" (sp_Book_rules K) []) (c_rule_text : Y.Cal P w K mg base CX0 2 "rule_text" (sp_rule_text K) []) : FnG P w K mg base CX0 4 f fd ["book"] (sp_show_book K) := by
  refine g_def F sc_show_book (fun vs H Q E h => ?_) (fun cdv A outer s H vs Q E hr h => ⟨t_show_book K, PSs.nox ?_, ?_⟩)
  · obtain ⟨_, rfl, _⟩ := h
    rfl
  · exact (pss_one (ps_ret (pe_join pe_str (pe_lc (own := [("rule", 1)]) (g := (gName 1)) (tt := tYes) rfl sc_show_book.nd (pi_list (Y.pe_m0 c_Book_rules hr (by decide) pass0 (pv 0))) (blkOk_by (own := [("rule", 1)]) (N := ["book", "rule"]) (sc := defScope s_show_book) (by decide +kernel)) (fun _ _ _ _ _ => (pg_name (i := 1) sc_show_book.nd rfl (Or.inl rfl))) (fun _ _ _ _ _ => pts_nil) (fun _ _ _ _ _ => (pe_op op_add_str (Y.pe_c c_rule_text hr (by decide) rfl pass0 (pa_cons (pv 1) pa_nil)) pe_str))))))
  · obtain ⟨_, rfl, _⟩ := id h
    exact pure_show_book h
theorem ok_number_by (T : Txt K mg) {f : Addr} {fd : FuncData} (F : FunD K "number_by" "number_by" (defArgs s_number_by) (defBody s_number_by) (defScope s_number_by) [] [] f fd)  : FnG P w K mg base CX0 1 f fd ["word"] (sp_number_by K) := by
  refine g_def F sc_number_by (fun vs H Q E h => ?_) (fun cdv A outer s H vs Q E hr h => ⟨t_number_by K, PSs.nox ?_, ?_⟩)
  · obtain ⟨_, rfl, _⟩ := h
    rfl
  · exact (pss_cons (ps_if (PW.pt (pw_or (pt_cmpR op_eq (pv 0) pe_str (nomark _)) (pw_or (pt_not (pt_val (pe_callB (cr_all rfl) (by rfl) T.b_all (by decide +kernel) (pa_cons (pe_lc (own := [("sign", 1)]) (g := (gName 1)) (tt := tYes) rfl sc_number_by.nd (pi_str (pv 0)) (blkOk_by (own := [("sign", 1)]) (N := ["word", "sign"]) (sc := defScope s_number_by) (by decide +kernel)) (fun _ _ _ _ _ => (pg_name (i := 1) sc_number_by.nd rfl (Or.inl rfl))) (fun _ _ _ _ _ => pts_nil) (fun _ _ _ _ _ => (pe_cmpR op_in_sign (pv 1) (pe_glob rfl T.c_FIGURES.choose_spec.1 T.c_FIGURES.choose_spec.2) (by rfl)))) pa_nil)))) (pw_or1 (PW.pt (pw_and (pt_cmpR op_eq (pe_ix ix_str (pv 0) pe_int (fun _ _ => rfl)) pe_str (nomark _)) (pw_and1 (pt_cmpR op_ne (pv 0) pe_str (nomark _))))))))) (pss_one (ps_ret pe_non)) pss_nil)
  (pss_one (ps_ret (pe_callTy call_int_str (by rfl) T.b_int (by decide +kernel) (pa_cons (pv 0) pa_nil)))))
  · obtain ⟨_, rfl, _⟩ := id h
    exact pure_number_by h
theorem ok_worths_by (T : Txt K mg) {f : Addr} {fd : FuncData} (F : FunD K "worths_by" "worths_by" (defArgs s_worths_by) (defBody s_worths_by) (defScope s_worths_by) [] [] f fd) (c_number_by : Y.Cal P w K mg base CX0 1 "number_by" (sp_number_by K) []) : FnG P w K mg base CX0 2 f fd ["word", "words"] (sp_worths_by K) := by
  refine g_def F sc_worths_by (fun vs H Q E h => ?_) (fun cdv A outer s H vs Q E hr h => ⟨t_worths_by K, PSs.nox ?_, ?_⟩)
  · obtain ⟨_, _, rfl, _⟩ := h
    rfl
  · exact (pss_cons (ps_if (PW.pt (pw_or (pt_cmpR op_eq (pv 0) pe_str (nomark _)) (pw_or1 (pt_cmpR op_eq (pv 0) pe_str (nomark _))))) (pss_one (ps_ret (pe_lc (own := [("text", 4), ("worth", 5)]) (g := (gTup K 2 (gCons (gName 4) (gCons (gName 5) gNil)))) (tt := (tTest (tOp (rEqD K) (tVar 1) (tLst (tCons (tVar 4) tNil))))) rfl sc_worths_by.nd (pi_tup (pe_tup (pa_cons (pe_tup (pa_cons pe_str (pa_cons pe_bl pa_nil))) (pa_cons (pe_tup (pa_cons pe_str (pa_cons pe_bl pa_nil))) pa_nil)))) (blkOk_by (own := [("text", 4), ("worth", 5)]) (N := ["word", "words", "numbers", "one", "text", "worth"]) (sc := defScope s_worths_by) (by decide +kernel)) (fun _ _ _ _ _ => (pg_tup (by rfl) (pgs_cons (pg_name (i := 4) sc_worths_by.nd rfl (Or.inl rfl)) (pgs_cons (pg_name (i := 5) sc_worths_by.nd rfl (Or.inl rfl)) pgs_nil)))) (fun _ _ _ _ _ => (pts_one (pt_cmpR (op_eqD hr.units) (pv 1) (pe_lst (pa_cons (pv 4) pa_nil)) (nomark _)))) (fun _ _ _ _ _ => (pv 5))))) pss_nil)
  (pss_cons (ps_if (pt_cmpR (op_eqD hr.units) (pv 1) (pe_lst (pa_cons pe_str pa_nil)) (nomark _)) (pss_one (ps_ret (pe_lst (pa_cons pe_non pa_nil)))) pss_nil)
  (pss_cons (ps_setLc (i := 2) (own := [("one", 3)]) (g := (gName 3)) (tt := tYes) rfl sc_worths_by.nd rfl rfl (sw_true rfl rfl rfl (by decide +kernel)) (pi_list (pv 1)) (blkOk_by (own := [("one", 3)]) (N := ["word", "words", "numbers", "one", "text", "worth"]) (sc := defScope s_worths_by) (by decide +kernel)) (fun _ _ _ _ _ => (pg_name (i := 3) sc_worths_by.nd rfl (Or.inl rfl))) (fun _ _ _ _ _ => pts_nil) (fun _ _ _ _ _ => (Y.pe_c c_number_by hr (by decide) rfl pass0 (pa_cons (pv 3) pa_nil))))
  (pss_cons (ps_if (pt_cmpR op_eq (pv 0) pe_str (nomark _)) (pss_one (ps_ret (pe_lst (pa_cons (pe_callTy call_tuple_of (by rfl) T.b_tuple (by decide +kernel) (pa_cons (pv 2) pa_nil)) pa_nil)))) pss_nil)
  (pss_one (ps_ret (pe_slice sl_list (pv 2) po_none (po_some (pe_callTy call_int1 (by rfl) T.b_int (by decide +kernel) (pa_cons (pe_cmpR op_eq (pe_callB call_len_seq (by rfl) T.b_len (by decide +kernel) (pa_cons (pv 2) pa_nil)) pe_int (nomark _)) pa_nil))))))))))
  · obtain ⟨_, _, rfl, _⟩ := id h
    exact pure_worths_by h
theorem ok_rule_by (T : Txt K mg) {f : Addr} {fd : FuncData} (F : FunD K "rule_by" "rule_by" (defArgs s_rule_by) (defBody s_rule_by) (defScope s_rule_by) [] [] f fd) (c_number_by : Y.Cal P w K mg base CX0 1 "number_by" (sp_number_by K) []) (c_worths_by : Y.Cal P w K mg base CX0 2 "worths_by" (sp_worths_by K) []) (c_rule_of : Y.Cal P w K mg base CX0 5 "rule_of" (sp_rule_of K) []) (c_rule_text : Y.Cal P w K mg base CX0 2 "rule_text" (sp_rule_text K) []) (c_Price_told : Y.Met P w K mg base CX0 2 (He.ga K "Price") "told" (sp_Rule_told K) []) (c_Come_told : Y.Met P w K mg base CX0 2 (He.ga K "Come") "told" (sp_Rule_told K) []) (c_Go_told : Y.Met P w K mg base CX0 2 (He.ga K "Go") "told" (sp_Rule_told K) []) (c_Least_told : Y.Met P w K mg base CX0 2 (He.ga K "Least") "told" (sp_Rule_told K) []) (c_Most_told : Y.Met P w K mg base CX0 2 (He.ga K "Most") "told" (sp_Rule_told K) []) (c_Deal_told : Y.Met P w K mg base CX0 2 (He.ga K "Deal") "told" (sp_Rule_told K) []) (c_Fee_told : Y.Met P w K mg base CX0 2 (He.ga K "Fee") "told" (sp_Rule_told K) []) : FnG P w K mg base CX0 6 f fd ["text"] (sp_rule_by K) := by
  refine g_def F sc_rule_by (fun vs H Q E h => ?_) (fun cdv A outer s H vs Q E hr h => ⟨t_rule_by K, PSs.nox ?_, ?_⟩)
  · obtain ⟨_, rfl, _⟩ := h
    rfl
  · exact (pss_cons (ps_set (i := 1) sc_rule_by.nd rfl (Or.inl rfl) (pe_split (pv 0) pe_str))
  (pss_cons (ps_if (pt_cmpR op_lt (pe_callB call_len_seq (by rfl) T.b_len (by decide +kernel) (pa_cons (pv 1) pa_nil)) pe_int (nomark _)) (pss_one (ps_ret pe_non)) pss_nil)
  (pss_cons (ps_set (i := 2) sc_rule_by.nd rfl (Or.inl rfl) (Y.pe_c c_number_by hr (by decide) rfl pass0 (pa_cons (pe_ix ix_list (pv 1) pe_int (fun _ _ => rfl)) pa_nil)))
  (pss_cons (ps_set (i := 3) sc_rule_by.nd rfl (Or.inl rfl) (Y.pe_c c_number_by hr (by decide) rfl pass0 (pa_cons (pe_ix ix_list (pv 1) pe_int (fun _ _ => rfl)) pa_nil)))
  (pss_cons (ps_for PassesOwn.never rfl (pi_list (Y.pe_c c_worths_by hr (by decide) rfl pass0 (pa_cons (pe_ix ix_list (pv 1) pe_int (fun _ _ => rfl)) (pa_cons (pe_slice sl_list (pv 1) (po_some pe_int) po_none) pa_nil)))) (pg_name (i := 4) sc_rule_by.nd rfl (Or.inl rfl)) (pss_cons (ps_set (i := 5) sc_rule_by.nd rfl (Or.inl rfl) (Y.pe_c c_rule_of hr (by decide) rfl pass0 (pa_cons (pe_tup (pa_cons (pe_ix ix_list (pv 1) pe_int (fun _ _ => rfl)) (pa_cons (pv 2) (pa_cons (pv 3) (pa_cons (pv 4) pa_nil))))) pa_nil)))
  (pss_one (ps_if (PW.pt (pw_and (pt_cmpR op_notN (pv 5) pe_non (nomark _)) (pw_and1 (pt_cmpR op_eq (Y.pe_c c_rule_text hr (by decide) rfl pass0 (pa_cons (Y.pe_rule fun w => match w with | .price => Y.pe_m0 c_Price_told hr (by decide) pass0 (pv 5) | .come => Y.pe_m0 c_Come_told hr (by decide) pass0 (pv 5) | .go => Y.pe_m0 c_Go_told hr (by decide) pass0 (pv 5) | .least => Y.pe_m0 c_Least_told hr (by decide) pass0 (pv 5) | .most => Y.pe_m0 c_Most_told hr (by decide) pass0 (pv 5) | .deal => Y.pe_m0 c_Deal_told hr (by decide) pass0 (pv 5) | .fee => Y.pe_m0 c_Fee_told hr (by decide) pass0 (pv 5)) pa_nil)) (pv 0) (nomark _))))) (pss_one (ps_ret (Y.pe_rule fun w => match w with | .price => Y.pe_m0 c_Price_told hr (by decide) pass0 (pv 5) | .come => Y.pe_m0 c_Come_told hr (by decide) pass0 (pv 5) | .go => Y.pe_m0 c_Go_told hr (by decide) pass0 (pv 5) | .least => Y.pe_m0 c_Least_told hr (by decide) pass0 (pv 5) | .most => Y.pe_m0 c_Most_told hr (by decide) pass0 (pv 5) | .deal => Y.pe_m0 c_Deal_told hr (by decide) pass0 (pv 5) | .fee => Y.pe_m0 c_Fee_told hr (by decide) pass0 (pv 5)))) pss_nil))))
  (pss_one (ps_ret pe_non)))))))
  · obtain ⟨_, rfl, _⟩ := id h
    exact pure_rule_by h
theorem ok_read_book (T : Txt K mg) {f : Addr} {fd : FuncData} (F : FunD K "read_book" "read_book" (defArgs s_read_book) (defBody s_read_book) (defScope s_read_book) [] [] f fd) (c_rule_by : Y.Cal P w K mg base CX0 6 "rule_by" (sp_rule_by K) []) (c_Book : Y.Mak P w K mg base CX0 6 "Book" (He.ga K "Book") (sp_Book_init K) []) : FnG P w K mg base CX0 8 f fd ["thing"] (sp_read_book K) := by
  refine g_def F sc_read_book (fun vs H Q E h => ?_) (fun cdv A outer s H vs Q E hr h => ⟨t_read_book K, PSs.nox ?_, ?_⟩)
  · obtain ⟨_, rfl, _⟩ := h
    rfl
  · exact (pss_cons (ps_if (pt_not (pt_val (pe_callB call_isi (by rfl) T.b_isinstance (by decide +kernel) (pa_cons (pv 0) (pa_cons (pe_bltn (v := .ty "str") (by rfl) T.b_str (by decide +kernel) rfl) pa_nil))))) (pss_one Y.ps_never) pss_nil)
  (pss_cons (ps_set (i := 1) sc_read_book.nd rfl (Or.inl rfl) (pe_split (pv 0) pe_str))
  (pss_cons (ps_setLc (i := 2) (own := [("line", 3)]) (g := (gName 3)) (tt := tYes) rfl sc_read_book.nd rfl rfl (sw_true rfl rfl rfl (by decide +kernel)) (pi_list (pe_slice sl_list (pv 1) po_none (po_some (pe_un un_neg pe_int)))) (blkOk_by (own := [("line", 3)]) (N := ["thing", "lines", "rules", "line"]) (sc := defScope s_read_book) (by decide +kernel)) (fun _ _ _ _ _ => (pg_name (i := 3) sc_read_book.nd rfl (Or.inl rfl))) (fun _ _ _ _ _ => pts_nil) (fun _ _ _ _ _ => (Y.pe_c c_rule_by hr (by decide) rfl pass0 (pa_cons (pv 3) pa_nil))))
  (pss_cons (ps_if (pt_cmpR (Y.op_inT hr.units) pe_non (pv 2) (by rfl)) (pss_one Y.ps_never) pss_nil)
  (pss_cons (ps_if (pt_cmpR op_ne (pe_ix ix_list (pv 1) (pe_un un_neg pe_int) (fun _ _ => rfl)) pe_str (nomark _)) (pss_one Y.ps_never) pss_nil)
  (pss_one (ps_ret (Y.pe_k c_Book hr (by decide) rfl pass0 (pa_cons (pv 2) pa_nil)))))))))
  · obtain ⟨_, rfl, _⟩ := id h
    exact pure_read_book h
theorem ok_Lstay (T : Txt K mg) {f : Addr} {fd : FuncData} (F : FunD K "_law_stay" "_law_stay" (defArgs s_Lstay) (defBody s_Lstay) (defScope s_Lstay) [] [] f fd) (c_Ldraw : Y.Cal P w K mg base CX0 1 "_law_draw" (sp_Ldraw K) []) : FnG P w K mg base CX0 2 f fd ["_law_tape_here", "_law_base", "_law_days"] (sp_Lstay K) := by
  refine g_def F sc_Lstay (fun vs H Q E h => ?_) (fun cdv A outer s H vs Q E hr h => ⟨t_Lstay K, PSs.nox ?_, ?_⟩)
  · obtain ⟨_, _, _, rfl, _⟩ := h
    rfl
  · exact (pss_cons (ps_set (i := 3) sc_Lstay.nd rfl (Or.inl rfl) (pe_op op_add pe_int (Y.pe_c c_Ldraw hr (by decide) rfl pass0 (pa_cons (pv 0) (pa_cons (pv 2) pa_nil)))))
  (pss_cons (ps_set (i := 4) sc_Lstay.nd rfl (Or.inl rfl) (pe_op op_add (pv 1) (Y.pe_c c_Ldraw hr (by decide) rfl pass0 (pa_cons (pv 0) (pa_cons (pe_op op_add (pe_op op_sub (pv 2) (pv 3)) pe_int) pa_nil)))))
  (pss_one (ps_ret (pe_tup (pa_cons (pv 4) (pa_cons (pe_op op_add (pv 4) (pv 3)) pa_nil)))))))
  · obtain ⟨_, _, _, rfl, _⟩ := id h
    exact pure_Lstay h
theorem ok_Rule_tells (T : Txt K mg) {f : Addr} {fd : FuncData} (F : FunD K "tells" "Rule.tells" (defArgs s_Rule_tells) (defBody s_Rule_tells) (defScope s_Rule_tells) [] [] f fd)  : FnG P w K mg base CX0 1 f fd ["self", "day"] (sp_Rule_tells K) := by
  refine g_def F sc_Rule_tells (fun vs H Q E h => ?_) (fun cdv A outer s H vs Q E hr h => ⟨t_Rule_tells K, PSs.nox ?_, ?_⟩)
  · obtain ⟨_, _, rfl, _⟩ := h
    rfl
  · exact (pss_one (ps_ret (pe_chain op_le op_le (pe_fld (pv 0) rfl) (pv 1) (pe_fld (pv 0) rfl))))
  · obtain ⟨_, _, rfl, _⟩ := id h
    exact pure_Rule_tells h
theorem ok_usual (T : Txt K mg) {f : Addr} {fd : FuncData} (F : FunD K "usual" "usual" (defArgs s_usual) (defBody s_usual) (defScope s_usual) [] [] f fd)  : FnG P w K mg base CX0 1 f fd ["word"] (sp_usual K) := by
  refine g_def F sc_usual (fun vs H Q E h => ?_) (fun cdv A outer s H vs Q E hr h => ⟨t_usual K, PSs.nox ?_, ?_⟩)
  · obtain ⟨_, rfl, _⟩ := h
    rfl
  · exact (pss_cons (ps_if (PW.pt (pw_or (pt_cmpR op_eq (pv 0) pe_str (nomark _)) (pw_or1 (pt_cmpR op_eq (pv 0) pe_str (nomark _))))) (pss_one (ps_ret pe_bl)) pss_nil)
  (pss_cons (ps_if (pt_cmpR op_eq (pv 0) pe_str (nomark _)) (pss_one (ps_ret pe_int)) pss_nil)
  (pss_cons (ps_if (pt_cmpR op_eq (pv 0) pe_str (nomark _)) (pss_one (ps_ret (pe_glob rfl T.c_MOST_NIGHTS.choose_spec.1 T.c_MOST_NIGHTS.choose_spec.2))) pss_nil)
  (pss_cons (ps_if (pt_cmpR op_eq (pv 0) pe_str (nomark _)) (pss_one (ps_ret pe_int)) pss_nil)
  (pss_one (ps_ret pe_non))))))
  · obtain ⟨_, rfl, _⟩ := id h
    exact pure_usual h
theorem ok_Book_tells_of (T : Txt K mg) {f : Addr} {fd : FuncData} (F : FunD K "tells_of" "Book.tells_of" (defArgs s_Book_tells_of) (defBody s_Book_tells_of) (defScope s_Book_tells_of) [] [] f fd) (c_Price_tells : Y.Met P w K mg base CX0 1 (He.ga K "Price") "tells" (sp_Rule_tells K) []) (c_Come_tells : Y.Met P w K mg base CX0 1 (He.ga K "Come") "tells" (sp_Rule_tells K) []) (c_Go_tells : Y.Met P w K mg base CX0 1 (He.ga K "Go") "tells" (sp_Rule_tells K) []) (c_Least_tells : Y.Met P w K mg base CX0 1 (He.ga K "Least") "tells" (sp_Rule_tells K) []) (c_Most_tells : Y.Met P w K mg base CX0 1 (He.ga K "Most") "tells" (sp_Rule_tells K) []) (c_Deal_tells : Y.Met P w K mg base CX0 1 (He.ga K "Deal") "tells" (sp_Rule_tells K) []) (c_Fee_tells : Y.Met P w K mg base CX0 1 (He.ga K "Fee") "tells" (sp_Rule_tells K) []) (c_usual : Y.Cal P w K mg base CX0 1 "usual" (sp_usual K) []) : FnG P w K mg base CX0 2 f fd ["self", "word", "day"] (sp_Book_tells_of K) := by
  refine g_def F sc_Book_tells_of (fun vs H Q E h => ?_) (fun cdv A outer s H vs Q E hr h => ⟨t_Book_tells_of K, PSs.nox ?_, ?_⟩)
  · obtain ⟨_, _, _, rfl, _⟩ := h
    rfl
  · exact (pss_cons (ps_for PassesOwn.never rfl (pi_list (pe_dget2 (hu_of hr.rm) (pe_fld (pv 0) rfl) (pv 1) (pe_lst pa_nil) ⟨by rfl, by rfl, by rfl, by rfl⟩)) (pg_name (i := 3) sc_Book_tells_of.nd rfl (Or.inl rfl)) (pss_one (ps_if (pt_val (Y.pe_rule fun w => match w with | .price => Y.pe_m c_Price_tells hr (by decide) pass0 (pv 3) (pa_cons (pv 2) pa_nil) | .come => Y.pe_m c_Come_tells hr (by decide) pass0 (pv 3) (pa_cons (pv 2) pa_nil) | .go => Y.pe_m c_Go_tells hr (by decide) pass0 (pv 3) (pa_cons (pv 2) pa_nil) | .least => Y.pe_m c_Least_tells hr (by decide) pass0 (pv 3) (pa_cons (pv 2) pa_nil) | .most => Y.pe_m c_Most_tells hr (by decide) pass0 (pv 3) (pa_cons (pv 2) pa_nil) | .deal => Y.pe_m c_Deal_tells hr (by decide) pass0 (pv 3) (pa_cons (pv 2) pa_nil) | .fee => Y.pe_m c_Fee_tells hr (by decide) pass0 (pv 3) (pa_cons (pv 2) pa_nil))) (pss_one (ps_ret (pe_fld (pv 3) rfl))) pss_nil)))
  (pss_one (ps_ret (Y.pe_c c_usual hr (by decide) rfl pass0 (pa_cons (pv 1) pa_nil)))))
  · obtain ⟨_, _, _, rfl, _⟩ := id h
    exact pure_Book_tells_of h
theorem ok_nights_of (T : Txt K mg) {f : Addr} {fd : FuncData} (F : FunD K "nights_of" "nights_of" (defArgs s_nights_of) (defBody s_nights_of) (defScope s_nights_of) [] [] f fd)  : FnG P w K mg base CX0 1 f fd ["stay"] (sp_nights_of K) := by
  refine g_def F sc_nights_of (fun vs H Q E h => ?_) (fun cdv A outer s H vs Q E hr h => ⟨t_nights_of K, PSs.nox ?_, ?_⟩)
  · obtain ⟨_, rfl, _⟩ := h
    rfl
  · exact (pss_one (ps_ret (pe_listRg rfl rfl T.b_list (prg_2 rfl T.b_range (pe_ix ix_tup (pv 0) pe_int (fun _ _ => rfl)) (pe_ix ix_tup (pv 0) pe_int (fun _ _ => rfl))))))
  · obtain ⟨_, rfl, _⟩ := id h
    exact pure_nights_of h
theorem ok_can_be_had (T : Txt K mg) {f : Addr} {fd : FuncData} (F : FunD K "can_be_had" "can_be_had" (defArgs s_can_be_had) (defBody s_can_be_had) (defScope s_can_be_had) [] [] f fd) (c_Book_tells_of : Y.Met P w K mg base CX0 2 (He.ga K "Book") "tells_of" (sp_Book_tells_of K) []) (c_nights_of : Y.Cal P w K mg base CX0 1 "nights_of" (sp_nights_of K) []) : FnG P w K mg base CX0 3 f fd ["book", "stay"] (sp_can_be_had K) := by
  refine g_def F sc_can_be_had (fun vs H Q E h => ?_) (fun cdv A outer s H vs Q E hr h => ⟨t_can_be_had K, PSs.nox ?_, ?_⟩)
  · obtain ⟨_, _, rfl, _⟩ := h
    rfl
  · exact (pss_cons (ps_asg (pv 1) (pg_tup (by rfl) (pgs_cons (pg_name (i := 2) sc_can_be_had.nd rfl (Or.inl rfl)) (pgs_cons (pg_name (i := 3) sc_can_be_had.nd rfl (Or.inl rfl)) pgs_nil))))
  (pss_cons (ps_if (pt_not (pt_chain op_le op_le (Y.pe_m c_Book_tells_of hr (by decide) pass0 (pv 0) (pa_cons pe_str (pa_cons (pv 2) pa_nil))) (pe_op op_sub (pv 3) (pv 2)) (Y.pe_m c_Book_tells_of hr (by decide) pass0 (pv 0) (pa_cons pe_str (pa_cons (pv 2) pa_nil))))) (pss_one (ps_ret pe_bl)) pss_nil)
  (pss_cons (ps_if (PW.pt (pw_or (pt_not (pt_truth (Y.pe_m c_Book_tells_of hr (by decide) pass0 (pv 0) (pa_cons pe_str (pa_cons (pv 2) pa_nil))) (by intro _; rfl))) (pw_or1 (pt_not (pt_truth (Y.pe_m c_Book_tells_of hr (by decide) pass0 (pv 0) (pa_cons pe_str (pa_cons (pv 3) pa_nil))) (by intro _; rfl)))))) (pss_one (ps_ret pe_bl)) pss_nil)
  (pss_cons (ps_for PassesOwn.never rfl (pi_list (Y.pe_c c_nights_of hr (by decide) rfl pass0 (pa_cons (pv 1) pa_nil))) (pg_name (i := 4) sc_can_be_had.nd rfl (Or.inl rfl)) (pss_one (ps_if (pt_cmpR op_isN (Y.pe_m c_Book_tells_of hr (by decide) pass0 (pv 0) (pa_cons pe_str (pa_cons (pv 4) pa_nil))) pe_non (nomark _)) (pss_one (ps_ret pe_bl)) pss_nil)))
  (pss_one (ps_ret pe_bl))))))
  · obtain ⟨_, _, rfl, _⟩ := id h
    exact pure_can_be_had h
theorem ok_marked (T : Txt K mg) {f : Addr} {fd : FuncData} (F : FunD K "marked" "marked" (defArgs s_marked) (defBody s_marked) (defScope s_marked) [] [] f fd)  : FnG P w K mg base CX0 1 f fd ["prices", "deal"] (sp_marked K) := by
  refine g_def F sc_marked (fun vs H Q E h => ?_) (fun cdv A outer s H vs Q E hr h => ⟨t_marked K, PSs.nox ?_, ?_⟩)
  · obtain ⟨_, _, rfl, _⟩ := h
    rfl
  · exact (pss_cons (ps_setLc (i := 3) (own := [("price", 2)]) (g := (gName 2)) (tt := tYes) rfl sc_marked.nd rfl rfl (sw_true rfl rfl rfl (by decide +kernel)) (pi_list (pv 0)) (blkOk_by (own := [("price", 2)]) (N := ["prices", "deal", "price", "found", "many", "free", "begin", "bundle", "back", "at"]) (sc := defScope s_marked) (by decide +kernel)) (fun _ _ _ _ _ => (pg_name (i := 2) sc_marked.nd rfl (Or.inl rfl))) (fun _ _ _ _ _ => pts_nil) (fun _ _ _ _ _ => pe_bl))
  (pss_cons (ps_if (pt_cmpR op_isN (pv 1) pe_non (nomark _)) (pss_one (ps_ret (pv 3))) pss_nil)
  (pss_cons (ps_asg (pv 1) (pg_tup (by rfl) (pgs_cons (pg_name (i := 4) sc_marked.nd rfl (Or.inl rfl)) (pgs_cons (pg_name (i := 5) sc_marked.nd rfl (Or.inl rfl)) pgs_nil))))
  (pss_cons (ps_for PassesOwn.never rfl (pi_range3 rfl T.b_range (pa_cons pe_int (pa_cons (pe_op op_add (pe_op op_sub (pe_callB call_len_seq (by rfl) T.b_len (by decide +kernel) (pa_cons (pv 0) pa_nil)) (pv 4)) pe_int) (pa_cons (pv 4) pa_nil)))) (pg_name (i := 6) sc_marked.nd rfl (Or.inl rfl)) (pss_cons (ps_set (i := 7) sc_marked.nd rfl (Or.inl rfl) (pe_callB cr_sortedPO (by rfl) T.b_sorted (by decide +kernel) (pa_cons (pe_lc (own := [("at", 9)]) (g := (gName 9)) (tt := tYes) rfl sc_marked.nd (pi_range2 rfl T.b_range (pa_cons (pv 6) (pa_cons (pe_op op_add (pv 6) (pv 4)) pa_nil))) (blkOk_by (own := [("at", 9)]) (N := ["prices", "deal", "price", "found", "many", "free", "begin", "bundle", "back", "at"]) (sc := defScope s_marked) (by decide +kernel)) (fun _ _ _ _ _ => (pg_name (i := 9) sc_marked.nd rfl (Or.inl rfl))) (fun _ _ _ _ _ => pts_nil) (fun _ _ _ _ _ => (pe_tup (pa_cons (pe_ix ix_list (pv 0) (pv 9) (fun _ _ => rfl)) (pa_cons (pe_op op_sub (pe_callB call_len_seq (by rfl) T.b_len (by decide +kernel) (pa_cons (pv 0) pa_nil)) (pv 9)) pa_nil))))) pa_nil)))
  (pss_one (ps_for PassesOwn.never rfl (pi_list (pe_slice sl_list (pv 7) po_none (po_some (pv 5)))) (pg_tup (by rfl) (pgs_cons (pg_name (i := 2) sc_marked.nd rfl (Or.inl rfl)) (pgs_cons (pg_name (i := 8) sc_marked.nd rfl (Or.inl rfl)) pgs_nil))) (pss_one (ps_asg pe_bl (pg_sub (pv 3) (pe_op op_sub (pe_callB call_len_seq (by rfl) T.b_len (by decide +kernel) (pa_cons (pv 0) pa_nil)) (pv 8)) set_list)))))))
  (pss_one (ps_ret (pv 3)))))))
  · obtain ⟨_, _, rfl, _⟩ := id h
    exact pure_marked h
theorem ok_bill (T : Txt K mg) {f : Addr} {fd : FuncData} (F : FunD K "bill" "bill" (defArgs s_bill) (defBody s_bill) (defScope s_bill) [] [] f fd) (c_nights_of : Y.Cal P w K mg base CX0 1 "nights_of" (sp_nights_of K) []) (c_Book_tells_of : Y.Met P w K mg base CX0 2 (He.ga K "Book") "tells_of" (sp_Book_tells_of K) []) (c_marked : Y.Cal P w K mg base CX0 1 "marked" (sp_marked K) []) : FnG P w K mg base CX0 3 f fd ["book", "stay"] (sp_bill K) := by
  refine g_def F sc_bill (fun vs H Q E h => ?_) (fun cdv A outer s H vs Q E hr h => ⟨t_bill K, PSs.nox ?_, ?_⟩)
  · obtain ⟨_, _, rfl, _⟩ := h
    rfl
  · exact (pss_cons (ps_set (i := 2) sc_bill.nd rfl (Or.inr rfl) (Y.pe_c c_nights_of hr (by decide) rfl pass0 (pa_cons (pv 1) pa_nil)))
  (pss_cons (ps_set (i := 3) sc_bill.nd rfl (Or.inr rfl) (pe_lc (own := [("night", 7)]) (g := (gName 7)) (tt := tYes) rfl sc_bill.nd (pi_list (pv 2)) (blkOk_by (own := [("night", 7)]) (N := ["book", "stay", "nights", "prices", "marks", "fee", "rows", "night", "k", "coins", "free"]) (sc := defScope s_bill) (by decide +kernel)) (fun _ _ _ _ _ => (pg_name (i := 7) sc_bill.nd rfl (Or.inl rfl))) (fun _ _ _ _ _ => pts_nil) (fun _ _ _ _ _ => (Y.pe_m c_Book_tells_of hr (by decide) pass0 (pv 0) (pa_cons pe_str (pa_cons (pv 7) pa_nil))))))
  (pss_cons (ps_if (pt_cmpR op_in_seq pe_non (pv 3) (by rfl)) (pss_one Y.ps_never) pss_nil)
  (pss_cons (ps_set (i := 4) sc_bill.nd rfl (Or.inr rfl) (Y.pe_c c_marked hr (by decide) rfl pass0 (pa_cons (pv 3) (pa_cons (Y.pe_m c_Book_tells_of hr (by decide) pass0 (pv 0) (pa_cons pe_str (pa_cons (pe_ix ix_tup (pv 1) pe_int (fun _ _ => rfl)) pa_nil))) pa_nil))))
  (pss_cons (ps_set (i := 5) sc_bill.nd rfl (Or.inl rfl) (Y.pe_m c_Book_tells_of hr (by decide) pass0 (pv 0) (pa_cons pe_str (pa_cons (pe_ix ix_tup (pv 1) pe_int (fun _ _ => rfl)) pa_nil))))
  (pss_cons (ps_setLc (i := 6) (own := [("k", 8)]) (g := (gName 8)) (tt := tYes) rfl sc_bill.nd rfl rfl (sw_true rfl rfl rfl (by decide +kernel)) (pi_range1 rfl T.b_range (pa_cons (pe_callB call_len_seq (by rfl) T.b_len (by decide +kernel) (pa_cons (pv 2) pa_nil)) pa_nil)) (blkOk_by (own := [("k", 8)]) (N := ["book", "stay", "nights", "prices", "marks", "fee", "rows", "night", "k", "coins", "free"]) (sc := defScope s_bill) (by decide +kernel)) (fun _ _ _ _ _ => (pg_name (i := 8) sc_bill.nd rfl (Or.inl rfl))) (fun _ _ _ _ _ => pts_nil) (fun _ _ _ _ _ => (pe_tup (pa_cons (pe_ix ix_list (pv 2) (pv 8) (fun _ _ => rfl)) (pa_cons (pe_ix ix_list (pv 3) (pv 8) (fun _ _ => rfl)) (pa_cons (pe_ix ix_list (pv 4) (pv 8) (fun _ _ => rfl)) pa_nil))))))
  (pss_one (ps_ret (pe_tup (pa_cons (pe_op op_add (pv 5) (pe_callB (cr_sum rfl) (by rfl) T.b_sum (by decide +kernel) (pa_cons (pe_lc (own := [("night", 7), ("coins", 9), ("free", 10)]) (g := (gTup K 3 (gCons (gName 7) (gCons (gName 9) (gCons (gName 10) gNil))))) (tt := (tNot (tB (tVar 10)))) rfl sc_bill.nd (pi_list (pv 6)) (blkOk_by (own := [("night", 7), ("coins", 9), ("free", 10)]) (N := ["book", "stay", "nights", "prices", "marks", "fee", "rows", "night", "k", "coins", "free"]) (sc := defScope s_bill) (by decide +kernel)) (fun _ _ _ _ _ => (pg_tup (by rfl) (pgs_cons (pg_name (i := 7) sc_bill.nd rfl (Or.inl rfl)) (pgs_cons (pg_name (i := 9) sc_bill.nd rfl (Or.inl rfl)) (pgs_cons (pg_name (i := 10) sc_bill.nd rfl (Or.inl rfl)) pgs_nil))))) (fun _ _ _ _ _ => (pts_one (pt_not (pt_val (pv 10))))) (fun _ _ _ _ _ => (pv 9))) pa_nil))) (pa_cons (pv 6) (pa_cons (pv 5) pa_nil))))))))))))
  · obtain ⟨_, _, rfl, _⟩ := id h
    exact pure_bill h
theorem ok_coins_of (T : Txt K mg) {f : Addr} {fd : FuncData} (F : FunD K "coins_of" "coins_of" (defArgs s_coins_of) (defBody s_coins_of) (defScope s_coins_of) [] [] f fd) (c_can_be_had : Y.Cal P w K mg base CX0 3 "can_be_had" (sp_can_be_had K) []) (c_bill : Y.Cal P w K mg base CX0 3 "bill" (sp_bill K) []) : FnG P w K mg base CX0 4 f fd ["book", "stay"] (sp_coins_of K) := by
  refine g_def F sc_coins_of (fun vs H Q E h => ?_) (fun cdv A outer s H vs Q E hr h => ⟨t_coins_of K, PSs.nox ?_, ?_⟩)
  · obtain ⟨_, _, rfl, _⟩ := h
    rfl
  · exact (pss_cons (ps_if (pt_not (pt_val (Y.pe_c c_can_be_had hr (by decide) rfl pass0 (pa_cons (pv 0) (pa_cons (pv 1) pa_nil))))) (pss_one (ps_ret pe_non)) pss_nil)
  (pss_one (ps_ret (pe_ix ix_tup (Y.pe_c c_bill hr (by decide) rfl pass0 (pa_cons (pv 0) (pa_cons (pv 1) pa_nil))) pe_int (fun _ _ => rfl)))))
  · obtain ⟨_, _, rfl, _⟩ := id h
    exact pure_coins_of h
theorem ok_parts_from (T : Txt K mg) {f : Addr} {fd : FuncData} (F : FunD K "parts_from" "parts_from" (defArgs s_parts_from) (defBody s_parts_from) (defScope s_parts_from) [] [] f fd) (c_coins_of : Y.Cal P w K mg base CX0 4 "coins_of" (sp_coins_of K) []) : FnG P w K mg base CX0 5 f fd ["books", "stay", "day"] (sp_parts_from K) := by
  refine g_def F sc_parts_from (fun vs H Q E h => ?_) (fun cdv A outer s H vs Q E hr h => ⟨t_parts_from K, PSs.nox ?_, ?_⟩)
  · obtain ⟨_, _, _, rfl, _⟩ := h
    rfl
  · exact (pss_cons (ps_set (i := 3) sc_parts_from.nd rfl (Or.inl rfl) (pe_lst pa_nil))
  (pss_cons (ps_for PassesOwn.never rfl (pi_enum (by rfl) T.b_enumerate (pa_cons (pv 0) pa_nil)) (pg_tup (by rfl) (pgs_cons (pg_name (i := 4) sc_parts_from.nd rfl (Or.inl rfl)) (pgs_cons (pg_name (i := 5) sc_parts_from.nd rfl (Or.inl rfl)) pgs_nil))) (pss_one (ps_for PassesOwn.never rfl (pi_range2 rfl T.b_range (pa_cons (pe_op op_add (pv 2) pe_int) (pa_cons (pe_op op_add (pe_ix ix_tup (pv 1) pe_int (fun _ _ => rfl)) pe_int) pa_nil))) (pg_name (i := 6) sc_parts_from.nd rfl (Or.inl rfl)) (pss_cons (ps_set (i := 7) sc_parts_from.nd rfl (Or.inl rfl) (Y.pe_c c_coins_of hr (by decide) rfl pass0 (pa_cons (pv 5) (pa_cons (pe_tup (pa_cons (pv 2) (pa_cons (pv 6) pa_nil))) pa_nil))))
  (pss_one (ps_if (pt_cmpR op_notN (pv 7) pe_non (nomark _)) (pss_one (ps_expr (pe_bm PySem.F.plainAttrs_list PySem.F.slot_list_append PySem.F.type_list_append mt_append (pv 3) (pa_cons (pe_tup (pa_cons (pv 7) (pa_cons (pe_tup (pa_cons (pv 2) (pa_cons (pv 6) (pa_cons (pv 4) pa_nil)))) pa_nil))) pa_nil)))) pss_nil))))))
  (pss_one (ps_ret (pv 3)))))
  · obtain ⟨_, _, _, rfl, _⟩ := id h
    exact pure_parts_from h
theorem ok_ways (T : Txt K mg) {f : Addr} {fd : FuncData} (F : FunD K "ways" "ways" (defArgs s_ways) (defBody s_ways) (defScope s_ways) [] [] f fd) (c_parts_from : Y.Cal P w K mg base CX0 5 "parts_from" (sp_parts_from K) []) : FnG P w K mg base CX0 6 f fd ["books", "stay"] (sp_ways K) := by
  refine g_def F sc_ways (fun vs H Q E h => ?_) (fun cdv A outer s H vs Q E hr h => ⟨t_ways K, PSs.nox ?_, ?_⟩)
  · obtain ⟨_, _, rfl, _⟩ := h
    rfl
  · exact (pss_cons (ps_set (i := 2) sc_ways.nd rfl (Or.inl rfl) (pe_disp (pps_cons (pe_ix ix_tup (pv 1) pe_int (fun _ _ => rfl)) (pe_tup (pa_cons pe_int (pa_cons pe_non pa_nil))) pps_nil) rfl rfl (by simp) (by simp)))
  (pss_cons (ps_for PassesOwn.never rfl (pi_range2 rfl T.b_range (pa_cons (pe_ix ix_tup (pv 1) pe_int (fun _ _ => rfl)) (pa_cons (pe_ix ix_tup (pv 1) pe_int (fun _ _ => rfl)) pa_nil))) (pg_name (i := 3) sc_ways.nd rfl (Or.inl rfl)) (pss_one (ps_if (pt_cmp (pc_din (hu_of hr.rm) (pv 3) (pv 2))) (pss_one (ps_for PassesOwn.never rfl (pi_list (Y.pe_c c_parts_from hr (by decide) rfl pass0 (pa_cons (pv 0) (pa_cons (pv 1) (pa_cons (pv 3) pa_nil))))) (pg_tup (by rfl) (pgs_cons (pg_name (i := 4) sc_ways.nd rfl (Or.inl rfl)) (pgs_cons (pg_name (i := 5) sc_ways.nd rfl (Or.inl rfl)) pgs_nil))) (pss_cons (ps_set (i := 6) sc_ways.nd rfl (Or.inl rfl) (pe_op op_add (pe_ix ix_tup (pe_dget (hu_of hr.rm) (pv 2) (pv 3) (fun _ _ => rfl)) pe_int (fun _ _ => rfl)) (pv 4)))
  (pss_one (ps_if (PW.pt (pw_or (pt_cmp (pc_dnotin (hu_of hr.rm) (pe_ix ix_tup (pv 5) pe_int (fun _ _ => rfl)) (pv 2))) (pw_or1 (pt_cmpR op_lt (pv 6) (pe_ix ix_tup (pe_dget (hu_of hr.rm) (pv 2) (pe_ix ix_tup (pv 5) pe_int (fun _ _ => rfl)) (fun _ _ => rfl)) pe_int (fun _ _ => rfl)) (nomark _))))) (pss_one (ps_dput (hu_of hr.rm) (pv 2) (pe_ix ix_tup (pv 5) pe_int (fun _ _ => rfl)) (pe_tup (pa_cons (pv 6) (pa_cons (pv 5) pa_nil))) rfl)) pss_nil))))) pss_nil)))
  (pss_one (ps_ret (pv 2)))))
  · obtain ⟨_, _, rfl, _⟩ := id h
    exact pure_ways h
theorem ok_paper_by (T : Txt K mg) {f : Addr} {fd : FuncData} (F : FunD K "paper_by" "paper_by" (defArgs s_paper_by) (defBody s_paper_by) (defScope s_paper_by) [] [] f fd)  : FnG P w K mg base CX0 1 f fd ["found", "stay"] (sp_paper_by K) := by
  refine g_def F sc_paper_by (fun vs H Q E h => ?_) (fun cdv A outer s H vs Q E hr h => ⟨t_paper_by K, PSs.nox ?_, ?_⟩)
  · obtain ⟨_, _, rfl, _⟩ := h
    rfl
  · exact (pss_cons (ps_set (i := 2) sc_paper_by.nd rfl (Or.inr rfl) (pe_callB (cr_max rfl) (by rfl) T.b_max (by decide +kernel) (pa_cons (pe_lock (pe_lc (own := [("coins", 6), ("part", 7)]) (g := (gTup K 2 (gCons (gName 6) (gCons (gName 7) gNil)))) (tt := tYes) rfl sc_paper_by.nd (pi_values (pv 0)) (blkOk_by (own := [("coins", 6), ("part", 7)]) (N := ["found", "stay", "most", "heights", "day", "k", "coins", "part"]) (sc := defScope s_paper_by) (by decide +kernel)) (fun _ _ _ _ _ => (pg_tup (by rfl) (pgs_cons (pg_name (i := 6) sc_paper_by.nd rfl (Or.inl rfl)) (pgs_cons (pg_name (i := 7) sc_paper_by.nd rfl (Or.inl rfl)) pgs_nil)))) (fun _ _ _ _ _ => pts_nil) (fun _ _ _ _ _ => (pv 6)))) pa_nil)))
  (pss_cons (ps_set (i := 3) sc_paper_by.nd rfl (Or.inr rfl) (pe_lc (own := [("day", 4)]) (g := (gName 4)) (tt := tYes) rfl sc_paper_by.nd (pi_range2 rfl T.b_range (pa_cons (pe_ix ix_tup (pv 1) pe_int (fun _ _ => rfl)) (pa_cons (pe_op op_add (pe_ix ix_tup (pv 1) pe_int (fun _ _ => rfl)) pe_int) pa_nil))) (blkOk_by (own := [("day", 4)]) (N := ["found", "stay", "most", "heights", "day", "k", "coins", "part"]) (sc := defScope s_paper_by) (by decide +kernel)) (fun _ _ _ _ _ => (pg_name (i := 4) sc_paper_by.nd rfl (Or.inl rfl))) (fun _ _ _ _ _ => pts_nil) (fun _ _ _ _ _ => (pe_ifExp (pt_cmp (pc_din (hu_of hr.rm) (pv 4) (pv 0))) (pe_ix ix_tup (pe_dget (hu_of hr.rm) (pv 0) (pv 4) (fun _ _ => rfl)) pe_int (fun _ _ => rfl)) (pv 2)))))
  (pss_one (ps_ret (pe_lc (own := [("k", 5)]) (g := (gName 5)) (tt := tYes) rfl sc_paper_by.nd (pi_range1 rfl T.b_range (pa_cons (pe_op op_sub (pe_callB call_len_seq (by rfl) T.b_len (by decide +kernel) (pa_cons (pv 3) pa_nil)) pe_int) pa_nil)) (blkOk_by (own := [("k", 5)]) (N := ["found", "stay", "most", "heights", "day", "k", "coins", "part"]) (sc := defScope s_paper_by) (by decide +kernel)) (fun _ _ _ _ _ => (pg_name (i := 5) sc_paper_by.nd rfl (Or.inl rfl))) (fun _ _ _ _ _ => pts_nil) (fun _ _ _ _ _ => (pe_op op_sub (pe_ix ix_list (pv 3) (pe_op op_add (pv 5) pe_int) (fun _ _ => rfl)) (pe_ix ix_list (pv 3) (pv 5) (fun _ _ => rfl)))))))))
  · obtain ⟨_, _, rfl, _⟩ := id h
    exact pure_paper_by h
theorem ok_cut_by (T : Txt K mg) {f : Addr} {fd : FuncData} (F : FunD K "cut_by" "cut_by" (defArgs s_cut_by) (defBody s_cut_by) (defScope s_cut_by) [] [] f fd)  : FnG P w K mg base CX0 1 f fd ["found", "go"] (sp_cut_by K) := by
  refine g_def F sc_cut_by (fun vs H Q E h => ?_) (fun cdv A outer s H vs Q E hr h => ⟨t_cut_by K, PSs.nox ?_, ?_⟩)
  · obtain ⟨_, _, rfl, _⟩ := h
    rfl
  · exact (pss_cons (ps_set (i := 2) sc_cut_by.nd rfl (Or.inl rfl) (pe_lst pa_nil))
  (pss_cons (ps_set (i := 3) sc_cut_by.nd rfl (Or.inl rfl) (pe_ix ix_tup (pe_dget (hu_of hr.rm) (pv 0) (pv 1) (fun _ _ => rfl)) pe_int (fun _ _ => rfl)))
  (pss_cons (ps_while PassesOwn.never (pt_cmpR op_notN (pv 3) pe_non (nomark _)) (pss_cons (ps_expr (pe_bm PySem.F.plainAttrs_list PySem.F.slot_list_insert PySem.F.type_list_insert mt_insert (pv 2) (pa_cons pe_int (pa_cons (pv 3) pa_nil))))
  (pss_one (ps_set (i := 3) sc_cut_by.nd rfl (Or.inl rfl) (pe_ix ix_tup (pe_dget (hu_of hr.rm) (pv 0) (pe_ix ix_tup (pv 3) pe_int (fun _ _ => rfl)) (fun _ _ => rfl)) pe_int (fun _ _ => rfl))))))
  (pss_one (ps_ret (pv 2))))))
  · obtain ⟨_, _, rfl, _⟩ := id h
    exact pure_cut_by h
theorem ok_best (T : Txt K mg) {f : Addr} {fd : FuncData} (F : FunD K "best" "best" (defArgs s_best) (defBody s_best) (defScope s_best) [] [] f fd) (c_ways : Y.Cal P w K mg base CX0 6 "ways" (sp_ways K) []) (c_paper_by : Y.Cal P w K mg base CX0 1 "paper_by" (sp_paper_by K) []) (c_cut_by : Y.Cal P w K mg base CX0 1 "cut_by" (sp_cut_by K) []) : FnG P w K mg base CX0 7 f fd ["books", "stay"] (sp_best K) := by
  refine g_def F sc_best (fun vs H Q E h => ?_) (fun cdv A outer s H vs Q E hr h => ⟨t_best K, PSs.nox ?_, ?_⟩)
  · obtain ⟨_, _, rfl, _⟩ := h
    rfl
  · exact (pss_cons (ps_set (i := 2) sc_best.nd rfl (Or.inl rfl) (Y.pe_c c_ways hr (by decide) rfl pass0 (pa_cons (pv 0) (pa_cons (pv 1) pa_nil))))
  (pss_cons (ps_if (pt_cmp (pc_dnotin (hu_of hr.rm) (pe_ix ix_tup (pv 1) pe_int (fun _ _ => rfl)) (pv 2))) (pss_one (ps_ret (pe_tup (pa_cons pe_str (pa_cons (pe_callB (Y.cr_sortDI rfl) (by rfl) T.b_sorted (by decide +kernel) (pa_cons (pv 2) pa_nil)) pa_nil))))) pss_nil)
  (pss_one (ps_ret (pe_tup (pa_cons pe_str (pa_cons (pe_ix ix_tup (pe_dget (hu_of hr.rm) (pv 2) (pe_ix ix_tup (pv 1) pe_int (fun _ _ => rfl)) (fun _ _ => rfl)) pe_int (fun _ _ => rfl)) (pa_cons (Y.pe_c c_cut_by hr (by decide) rfl pass0 (pa_cons (pv 2) (pa_cons (pe_ix ix_tup (pv 1) pe_int (fun _ _ => rfl)) pa_nil))) (pa_cons (Y.pe_c c_paper_by hr (by decide) rfl pass0 (pa_cons (pv 2) (pa_cons (pv 1) pa_nil))) pa_nil)))))))))
  · obtain ⟨_, _, rfl, _⟩ := id h
    exact pure_best h
theorem ok_priced_parts (T : Txt K mg) {f : Addr} {fd : FuncData} (F : FunD K "priced_parts" "priced_parts" (defArgs s_priced_parts) (defBody s_priced_parts) (defScope s_priced_parts) [] [] f fd) (c_coins_of : Y.Cal P w K mg base CX0 4 "coins_of" (sp_coins_of K) []) : FnG P w K mg base CX0 5 f fd ["books", "stay"] (sp_priced_parts K) := by
  refine g_def F sc_priced_parts (fun vs H Q E h => ?_) (fun cdv A outer s H vs Q E hr h => ⟨t_priced_parts K, PSs.nox ?_, ?_⟩)
  · obtain ⟨_, _, rfl, _⟩ := h
    rfl
  · exact (pss_cons (ps_set (i := 2) sc_priced_parts.nd rfl (Or.inl rfl) (pe_lst pa_nil))
  (pss_cons (ps_for PassesOwn.never rfl (pi_range2 rfl T.b_range (pa_cons (pe_ix ix_tup (pv 1) pe_int (fun _ _ => rfl)) (pa_cons (pe_ix ix_tup (pv 1) pe_int (fun _ _ => rfl)) pa_nil))) (pg_name (i := 3) sc_priced_parts.nd rfl (Or.inl rfl)) (pss_one (ps_for PassesOwn.never rfl (pi_list (pv 0)) (pg_name (i := 4) sc_priced_parts.nd rfl (Or.inl rfl)) (pss_one (ps_for PassesOwn.never rfl (pi_range2 rfl T.b_range (pa_cons (pe_op op_add (pv 3) pe_int) (pa_cons (pe_op op_add (pe_ix ix_tup (pv 1) pe_int (fun _ _ => rfl)) pe_int) pa_nil))) (pg_name (i := 5) sc_priced_parts.nd rfl (Or.inl rfl)) (pss_cons (ps_set (i := 6) sc_priced_parts.nd rfl (Or.inl rfl) (Y.pe_c c_coins_of hr (by decide) rfl pass0 (pa_cons (pv 4) (pa_cons (pe_tup (pa_cons (pv 3) (pa_cons (pv 5) pa_nil))) pa_nil))))
  (pss_one (ps_if (pt_cmpR op_notN (pv 6) pe_non (nomark _)) (pss_one (ps_expr (pe_bm PySem.F.plainAttrs_list PySem.F.slot_list_append PySem.F.type_list_append mt_append (pv 2) (pa_cons (pe_tup (pa_cons (pv 3) (pa_cons (pv 5) (pa_cons (pv 6) pa_nil)))) pa_nil)))) pss_nil))))))))
  (pss_one (ps_ret (pv 2)))))
  · obtain ⟨_, _, rfl, _⟩ := id h
    exact pure_priced_parts h
theorem ok_is_shut (T : Txt K mg) {f : Addr} {fd : FuncData} (F : FunD K "is_shut" "is_shut" (defArgs s_is_shut) (defBody s_is_shut) (defScope s_is_shut) [] [] f fd) (c_is_whole : Y.Cal P w K mg base CX0 1 "is_whole" (sp_is_whole K) []) (c_priced_parts : Y.Cal P w K mg base CX0 5 "priced_parts" (sp_priced_parts K) []) : FnG P w K mg base CX0 6 f fd ["books", "stay", "thing"] (sp_is_shut K) := by
  refine g_def F sc_is_shut (fun vs H Q E h => ?_) (fun cdv A outer s H vs Q E hr h => ⟨t_is_shut K, PSs.nox ?_, ?_⟩)
  · obtain ⟨_, _, _, rfl, _⟩ := h
    rfl
  · exact (pss_cons (ps_if (PW.pt (pw_or (pt_not (pt_val (pe_callB call_isi (by rfl) T.b_isinstance (by decide +kernel) (pa_cons (pv 2) (pa_cons (pe_bltn (v := .ty "list") (by rfl) T.b_list (by decide +kernel) rfl) pa_nil))))) (pw_or1 (pt_not (pt_val (pe_callB (cr_all rfl) (by rfl) T.b_all (by decide +kernel) (pa_cons (pe_lc (own := [("day", 3)]) (g := (gName 3)) (tt := tYes) rfl sc_is_shut.nd (pi_list (pv 2)) (blkOk_by (own := [("day", 3)]) (N := ["books", "stay", "thing", "day", "begin", "end", "price"]) (sc := defScope s_is_shut) (by decide +kernel)) (fun _ _ _ _ _ => (pg_name (i := 3) sc_is_shut.nd rfl (Or.inl rfl))) (fun _ _ _ _ _ => pts_nil) (fun _ _ _ _ _ => (Y.pe_c c_is_whole hr (by decide) rfl pass0 (pa_cons (pv 3) pa_nil)))) pa_nil))))))) (pss_one (ps_ret pe_bl)) pss_nil)
  (pss_cons (ps_if (PW.pt (pw_or (pt_cmpR (op_neD hr.units) (pv 2) (pe_lc (own := [("day", 3)]) (g := (gName 3)) (tt := (tTest (tOp (rIn K false) (tVar 3) (tVar 2)))) rfl sc_is_shut.nd (pi_range2 rfl T.b_range (pa_cons (pe_ix ix_tup (pv 1) pe_int (fun _ _ => rfl)) (pa_cons (pe_ix ix_tup (pv 1) pe_int (fun _ _ => rfl)) pa_nil))) (blkOk_by (own := [("day", 3)]) (N := ["books", "stay", "thing", "day", "begin", "end", "price"]) (sc := defScope s_is_shut) (by decide +kernel)) (fun _ _ _ _ _ => (pg_name (i := 3) sc_is_shut.nd rfl (Or.inl rfl))) (fun _ _ _ _ _ => (pts_one (pt_cmpR op_in_seq (pv 3) (pv 2) (by rfl)))) (fun _ _ _ _ _ => (pv 3))) (nomark _)) (pw_or1 (pt_cmpR op_notIn_seq (pe_ix ix_tup (pv 1) pe_int (fun _ _ => rfl)) (pv 2) (by rfl))))) (pss_one (ps_ret pe_bl)) pss_nil)
  (pss_one (ps_ret (pe_not (pe_callB (cr_any rfl) (by rfl) T.b_any (by decide +kernel) (pa_cons (pe_lc (own := [("begin", 4), ("end", 5), ("price", 6)]) (g := (gTup K 3 (gCons (gName 4) (gCons (gName 5) (gCons (gName 6) gNil))))) (tt := tYes) rfl sc_is_shut.nd (pi_list (Y.pe_c c_priced_parts hr (by decide) rfl pass0 (pa_cons (pv 0) (pa_cons (pv 1) pa_nil)))) (blkOk_by (own := [("begin", 4), ("end", 5), ("price", 6)]) (N := ["books", "stay", "thing", "day", "begin", "end", "price"]) (sc := defScope s_is_shut) (by decide +kernel)) (fun _ _ _ _ _ => (pg_tup (by rfl) (pgs_cons (pg_name (i := 4) sc_is_shut.nd rfl (Or.inl rfl)) (pgs_cons (pg_name (i := 5) sc_is_shut.nd rfl (Or.inl rfl)) (pgs_cons (pg_name (i := 6) sc_is_shut.nd rfl (Or.inl rfl)) pgs_nil))))) (fun _ _ _ _ _ => pts_nil) (fun _ _ _ _ _ => (pe_and (pe_cmpR op_in_seq (pv 4) (pv 2) (by rfl)) (pe_one (pe_cmpR op_notIn_seq (pv 5) (pv 2) (by rfl)))))) pa_nil)))))))
  · obtain ⟨_, _, _, rfl, _⟩ := id h
    exact pure_is_shut h
theorem ok_is_stay (T : Txt K mg) {f : Addr} {fd : FuncData} (F : FunD K "is_stay" "is_stay" (defArgs s_is_stay) (defBody s_is_stay) (defScope s_is_stay) [] [] f fd) (c_is_two_days : Y.Cal P w K mg base CX0 3 "is_two_days" (sp_is_two_days K) []) : FnG P w K mg base CX0 4 f fd ["thing"] (sp_is_stay K) := by
  refine g_def F sc_is_stay (fun vs H Q E h => ?_) (fun cdv A outer s H vs Q E hr h => ⟨t_is_stay K, PSs.nox ?_, ?_⟩)
  · obtain ⟨_, rfl, _⟩ := h
    rfl
  · exact (pss_one (ps_ret (pe_and (Y.pe_c c_is_two_days hr (by decide) rfl pass0 (pa_cons (pv 0) pa_nil)) (pe_one (pe_chain op_le op_le pe_int (pe_op op_sub (pe_ix ix_tup (pv 0) pe_int (fun _ _ => rfl)) (pe_ix ix_tup (pv 0) pe_int (fun _ _ => rfl))) (pe_glob rfl T.c_MOST_NIGHTS.choose_spec.1 T.c_MOST_NIGHTS.choose_spec.2))))))
  · obtain ⟨_, rfl, _⟩ := id h
    exact pure_is_stay h
theorem ok_is_part (T : Txt K mg) {f : Addr} {fd : FuncData} (F : FunD K "is_part" "is_part" (defArgs s_is_part) (defBody s_is_part) (defScope s_is_part) [] [] f fd) (c_is_stay : Y.Cal P w K mg base CX0 4 "is_stay" (sp_is_stay K) []) (c_is_whole : Y.Cal P w K mg base CX0 1 "is_whole" (sp_is_whole K) []) (c_can_be_had : Y.Cal P w K mg base CX0 3 "can_be_had" (sp_can_be_had K) []) : FnG P w K mg base CX0 5 f fd ["books", "stay", "thing"] (sp_is_part K) := by
  refine g_def F sc_is_part (fun vs H Q E h => ?_) (fun cdv A outer s H vs Q E hr h => ⟨t_is_part K, PSs.nox ?_, ?_⟩)
  · obtain ⟨_, _, _, rfl, _⟩ := h
    rfl
  · exact (pss_cons (ps_if (PW.pt (pw_or (pt_not (pt_val (pe_callB call_isi (by rfl) T.b_isinstance (by decide +kernel) (pa_cons (pv 2) (pa_cons (pe_bltn (v := .ty "tuple") (by rfl) T.b_tuple (by decide +kernel) rfl) pa_nil))))) (pw_or (pt_cmpR op_ne (pe_callB call_len_seq (by rfl) T.b_len (by decide +kernel) (pa_cons (pv 2) pa_nil)) pe_int (nomark _)) (pw_or1 (pt_not (pt_val (Y.pe_c c_is_stay hr (by decide) rfl pass0 (pa_cons (pe_tup (pa_cons (pe_ix ix_tup (pv 2) pe_int (fun _ _ => rfl)) (pa_cons (pe_ix ix_tup (pv 2) pe_int (fun _ _ => rfl)) pa_nil))) pa_nil)))))))) (pss_one (ps_ret pe_bl)) pss_nil)
  (pss_cons (ps_asg (pv 2) (pg_tup (by rfl) (pgs_cons (pg_name (i := 3) sc_is_part.nd rfl (Or.inl rfl)) (pgs_cons (pg_name (i := 4) sc_is_part.nd rfl (Or.inl rfl)) (pgs_cons (pg_name (i := 5) sc_is_part.nd rfl (Or.inl rfl)) pgs_nil)))))
  (pss_cons (ps_if (PW.pt (pw_or (pt_cmpR op_lt (pv 3) (pe_ix ix_tup (pv 1) pe_int (fun _ _ => rfl)) (nomark _)) (pw_or (pt_cmpR op_gt (pv 4) (pe_ix ix_tup (pv 1) pe_int (fun _ _ => rfl)) (nomark _)) (pw_or (pt_not (pt_val (Y.pe_c c_is_whole hr (by decide) rfl pass0 (pa_cons (pv 5) pa_nil)))) (pw_or1 (pt_not (pt_chain op_le op_lt pe_int (pv 5) (pe_callB call_len_seq (by rfl) T.b_len (by decide +kernel) (pa_cons (pv 0) pa_nil))))))))) (pss_one (ps_ret pe_bl)) pss_nil)
  (pss_one (ps_ret (Y.pe_c c_can_be_had hr (by decide) rfl pass0 (pa_cons (pe_ix ix_list (pv 0) (pv 5) (fun _ _ => rfl)) (pa_cons (pe_tup (pa_cons (pv 3) (pa_cons (pv 4) pa_nil))) pa_nil))))))))
  · obtain ⟨_, _, _, rfl, _⟩ := id h
    exact pure_is_part h
theorem ok_is_cut (T : Txt K mg) {f : Addr} {fd : FuncData} (F : FunD K "is_cut" "is_cut" (defArgs s_is_cut) (defBody s_is_cut) (defScope s_is_cut) [] [] f fd) (c_is_part : Y.Cal P w K mg base CX0 5 "is_part" (sp_is_part K) []) : FnG P w K mg base CX0 6 f fd ["books", "stay", "thing"] (sp_is_cut K) := by
  refine g_def F sc_is_cut (fun vs H Q E h => ?_) (fun cdv A outer s H vs Q E hr h => ⟨t_is_cut K, PSs.nox ?_, ?_⟩)
  · obtain ⟨_, _, _, rfl, _⟩ := h
    rfl
  · exact (pss_cons (ps_if (pt_not (pt_val (pe_callB call_isi (by rfl) T.b_isinstance (by decide +kernel) (pa_cons (pv 2) (pa_cons (pe_bltn (v := .ty "list") (by rfl) T.b_list (by decide +kernel) rfl) pa_nil))))) (pss_one (ps_ret pe_bl)) pss_nil)
  (pss_cons (ps_set (i := 3) sc_is_cut.nd rfl (Or.inl rfl) (pe_ix ix_tup (pv 1) pe_int (fun _ _ => rfl)))
  (pss_cons (ps_for PassesOwn.never rfl (pi_list (pv 2)) (pg_name (i := 4) sc_is_cut.nd rfl (Or.inl rfl)) (pss_cons (ps_if (PW.pt (pw_or (pt_not (pt_val (Y.pe_c c_is_part hr (by decide) rfl pass0 (pa_cons (pv 0) (pa_cons (pv 1) (pa_cons (pv 4) pa_nil)))))) (pw_or1 (pt_cmpR op_ne (pe_ix ix_tup (pv 4) pe_int (fun _ _ => rfl)) (pv 3) (nomark _))))) (pss_one (ps_ret pe_bl)) pss_nil)
  (pss_one (ps_set (i := 3) sc_is_cut.nd rfl (Or.inl rfl) (pe_ix ix_tup (pv 4) pe_int (fun _ _ => rfl))))))
  (pss_one (ps_ret (pe_cmpR op_eq (pv 3) (pe_ix ix_tup (pv 1) pe_int (fun _ _ => rfl)) (nomark _)))))))
  · obtain ⟨_, _, _, rfl, _⟩ := id h
    exact pure_is_cut h
theorem ok_cost (T : Txt K mg) {f : Addr} {fd : FuncData} (F : FunD K "cost" "cost" (defArgs s_cost) (defBody s_cost) (defScope s_cost) [] [] f fd) (c_coins_of : Y.Cal P w K mg base CX0 4 "coins_of" (sp_coins_of K) []) : FnG P w K mg base CX0 5 f fd ["book", "stay"] (sp_cost K) := by
  refine g_def F sc_cost (fun vs H Q E h => ?_) (fun cdv A outer s H vs Q E hr h => ⟨t_cost K, PSs.nox ?_, ?_⟩)
  · obtain ⟨_, _, rfl, _⟩ := h
    rfl
  · exact (pss_cons (ps_set (i := 2) sc_cost.nd rfl (Or.inl rfl) (Y.pe_c c_coins_of hr (by decide) rfl pass0 (pa_cons (pv 0) (pa_cons (pv 1) pa_nil))))
  (pss_cons (ps_if (pt_cmpR op_isN (pv 2) pe_non (nomark _)) (pss_one Y.ps_never) pss_nil)
  (pss_one (ps_ret (pv 2)))))
  · obtain ⟨_, _, rfl, _⟩ := id h
    exact pure_cost h
theorem ok_cost_of (T : Txt K mg) {f : Addr} {fd : FuncData} (F : FunD K "cost_of" "cost_of" (defArgs s_cost_of) (defBody s_cost_of) (defScope s_cost_of) [] [] f fd) (c_cost : Y.Cal P w K mg base CX0 5 "cost" (sp_cost K) []) : FnG P w K mg base CX0 6 f fd ["books", "part"] (sp_cost_of K) := by
  refine g_def F sc_cost_of (fun vs H Q E h => ?_) (fun cdv A outer s H vs Q E hr h => ⟨t_cost_of K, PSs.nox ?_, ?_⟩)
  · obtain ⟨_, _, rfl, _⟩ := h
    rfl
  · exact (pss_one (ps_ret (Y.pe_c c_cost hr (by decide) rfl pass0 (pa_cons (pe_ix ix_list (pv 0) (pe_ix ix_tup (pv 1) pe_int (fun _ _ => rfl)) (fun _ _ => rfl)) (pa_cons (pe_tup (pa_cons (pe_ix ix_tup (pv 1) pe_int (fun _ _ => rfl)) (pa_cons (pe_ix ix_tup (pv 1) pe_int (fun _ _ => rfl)) pa_nil))) pa_nil)))))
  · obtain ⟨_, _, rfl, _⟩ := id h
    exact pure_cost_of h
theorem ok_is_paper (T : Txt K mg) {f : Addr} {fd : FuncData} (F : FunD K "is_paper" "is_paper" (defArgs s_is_paper) (defBody s_is_paper) (defScope s_is_paper) [] [] f fd) (c_is_whole : Y.Cal P w K mg base CX0 1 "is_whole" (sp_is_whole K) []) (c_priced_parts : Y.Cal P w K mg base CX0 5 "priced_parts" (sp_priced_parts K) []) : FnG P w K mg base CX0 6 f fd ["books", "stay", "coins", "thing"] (sp_is_paper K) := by
  refine g_def F sc_is_paper (fun vs H Q E h => ?_) (fun cdv A outer s H vs Q E hr h => ⟨t_is_paper K, PSs.nox ?_, ?_⟩)
  · obtain ⟨_, _, _, _, rfl, _⟩ := h
    rfl
  · exact (pss_cons (ps_if (PW.pt (pw_or (pt_not (pt_val (pe_callB call_isi (by rfl) T.b_isinstance (by decide +kernel) (pa_cons (pv 3) (pa_cons (pe_bltn (v := .ty "list") (by rfl) T.b_list (by decide +kernel) rfl) pa_nil))))) (pw_or1 (pt_not (pt_val (pe_callB (cr_all rfl) (by rfl) T.b_all (by decide +kernel) (pa_cons (pe_lc (own := [("number", 7)]) (g := (gName 7)) (tt := tYes) rfl sc_is_paper.nd (pi_list (pv 3)) (blkOk_by (own := [("number", 7)]) (N := ["books", "stay", "coins", "thing", "begin", "end", "price", "number"]) (sc := defScope s_is_paper) (by decide +kernel)) (fun _ _ _ _ _ => (pg_name (i := 7) sc_is_paper.nd rfl (Or.inl rfl))) (fun _ _ _ _ _ => pts_nil) (fun _ _ _ _ _ => (Y.pe_c c_is_whole hr (by decide) rfl pass0 (pa_cons (pv 7) pa_nil)))) pa_nil))))))) (pss_one (ps_ret pe_bl)) pss_nil)
  (pss_cons (ps_if (PW.pt (pw_or (pt_cmpR op_ne (pe_callB call_len_seq (by rfl) T.b_len (by decide +kernel) (pa_cons (pv 3) pa_nil)) (pe_op op_sub (pe_ix ix_tup (pv 1) pe_int (fun _ _ => rfl)) (pe_ix ix_tup (pv 1) pe_int (fun _ _ => rfl))) (nomark _)) (pw_or1 (pt_cmpR op_ne (pe_callB (cr_sum rfl) (by rfl) T.b_sum (by decide +kernel) (pa_cons (pv 3) pa_nil)) (pv 2) (nomark _))))) (pss_one (ps_ret pe_bl)) pss_nil)
  (pss_cons (ps_for PassesOwn.never rfl (pi_list (Y.pe_c c_priced_parts hr (by decide) rfl pass0 (pa_cons (pv 0) (pa_cons (pv 1) pa_nil)))) (pg_tup (by rfl) (pgs_cons (pg_name (i := 4) sc_is_paper.nd rfl (Or.inl rfl)) (pgs_cons (pg_name (i := 5) sc_is_paper.nd rfl (Or.inl rfl)) (pgs_cons (pg_name (i := 6) sc_is_paper.nd rfl (Or.inl rfl)) pgs_nil)))) (pss_one (ps_if (pt_cmpR op_lt (pv 6) (pe_callB (cr_sum rfl) (by rfl) T.b_sum (by decide +kernel) (pa_cons (pe_slice sl_list (pv 3) (po_some (pe_op op_sub (pv 4) (pe_ix ix_tup (pv 1) pe_int (fun _ _ => rfl)))) (po_some (pe_op op_sub (pv 5) (pe_ix ix_tup (pv 1) pe_int (fun _ _ => rfl))))) pa_nil)) (nomark _)) (pss_one (ps_ret pe_bl)) pss_nil)))
  (pss_one (ps_ret pe_bl)))))
  · obtain ⟨_, _, _, _, rfl, _⟩ := id h
    exact pure_is_paper h
theorem ok_lets_by (T : Txt K mg) {f : Addr} {fd : FuncData} (F : FunD K "lets_by" "lets_by" (defArgs s_lets_by) (defBody s_lets_by) (defScope s_lets_by) [] [] f fd) (c_is_shut : Y.Cal P w K mg base CX0 6 "is_shut" (sp_is_shut K) []) (c_is_whole : Y.Cal P w K mg base CX0 1 "is_whole" (sp_is_whole K) []) (c_is_cut : Y.Cal P w K mg base CX0 6 "is_cut" (sp_is_cut K) []) (c_cost_of : Y.Cal P w K mg base CX0 6 "cost_of" (sp_cost_of K) []) (c_is_paper : Y.Cal P w K mg base CX0 6 "is_paper" (sp_is_paper K) []) : FnG P w K mg base CX0 7 f fd ["books", "stay", "thing"] (sp_lets_by K) := by
  refine g_def F sc_lets_by (fun vs H Q E h => ?_) (fun cdv A outer s H vs Q E hr h => ⟨t_lets_by K, PSs.nox ?_, ?_⟩)
  · obtain ⟨_, _, _, rfl, _⟩ := h
    rfl
  · exact (pss_cons (ps_if (PW.pt (pw_or (pt_not (pt_val (pe_callB call_isi (by rfl) T.b_isinstance (by decide +kernel) (pa_cons (pv 2) (pa_cons (pe_bltn (v := .ty "tuple") (by rfl) T.b_tuple (by decide +kernel) rfl) pa_nil))))) (pw_or (pt_cmpR op_eq (pe_callB call_len_seq (by rfl) T.b_len (by decide +kernel) (pa_cons (pv 2) pa_nil)) pe_int (nomark _)) (pw_or1 (pt_not (pt_val (pe_callB call_isi (by rfl) T.b_isinstance (by decide +kernel) (pa_cons (pe_ix ix_tup (pv 2) pe_int (fun _ _ => rfl)) (pa_cons (pe_bltn (v := .ty "str") (by rfl) T.b_str (by decide +kernel) rfl) pa_nil))))))))) (pss_one (ps_ret pe_bl)) pss_nil)
  (pss_cons (ps_if (pt_cmpR op_eq (pe_ix ix_tup (pv 2) pe_int (fun _ _ => rfl)) pe_str (nomark _)) (pss_one (ps_ret (pe_and (pe_cmpR op_eq (pe_callB call_len_seq (by rfl) T.b_len (by decide +kernel) (pa_cons (pv 2) pa_nil)) pe_int (nomark _)) (pe_one (Y.pe_c c_is_shut hr (by decide) rfl pass0 (pa_cons (pv 0) (pa_cons (pv 1) (pa_cons (pe_ix ix_tup (pv 2) pe_int (fun _ _ => rfl)) pa_nil)))))))) pss_nil)
  (pss_cons (ps_if (PW.pt (pw_or (pt_cmpR op_ne (pe_ix ix_tup (pv 2) pe_int (fun _ _ => rfl)) pe_str (nomark _)) (pw_or (pt_cmpR op_ne (pe_callB call_len_seq (by rfl) T.b_len (by decide +kernel) (pa_cons (pv 2) pa_nil)) pe_int (nomark _)) (pw_or (pt_not (pt_val (Y.pe_c c_is_whole hr (by decide) rfl pass0 (pa_cons (pe_ix ix_tup (pv 2) pe_int (fun _ _ => rfl)) pa_nil)))) (pw_or1 (pt_not (pt_val (Y.pe_c c_is_cut hr (by decide) rfl pass0 (pa_cons (pv 0) (pa_cons (pv 1) (pa_cons (pe_ix ix_tup (pv 2) pe_int (fun _ _ => rfl)) pa_nil))))))))))) (pss_one (ps_ret pe_bl)) pss_nil)
  (pss_cons (ps_if (pt_cmpR op_ne (pe_callB (cr_sum rfl) (by rfl) T.b_sum (by decide +kernel) (pa_cons (pe_lc (own := [("part", 3)]) (g := (gName 3)) (tt := tYes) rfl sc_lets_by.nd (pi_list (pe_ix ix_tup (pv 2) pe_int (fun _ _ => rfl))) (blkOk_by (own := [("part", 3)]) (N := ["books", "stay", "thing", "part"]) (sc := defScope s_lets_by) (by decide +kernel)) (fun _ _ _ _ _ => (pg_name (i := 3) sc_lets_by.nd rfl (Or.inl rfl))) (fun _ _ _ _ _ => pts_nil) (fun _ _ _ _ _ => (Y.pe_c c_cost_of hr (by decide) rfl pass0 (pa_cons (pv 0) (pa_cons (pv 3) pa_nil))))) pa_nil)) (pe_ix ix_tup (pv 2) pe_int (fun _ _ => rfl)) (nomark _)) (pss_one (ps_ret pe_bl)) pss_nil)
  (pss_one (ps_ret (Y.pe_c c_is_paper hr (by decide) rfl pass0 (pa_cons (pv 0) (pa_cons (pv 1) (pa_cons (pe_ix ix_tup (pv 2) pe_int (fun _ _ => rfl)) (pa_cons (pe_ix ix_tup (pv 2) pe_int (fun _ _ => rfl)) pa_nil)))))))))))
  · obtain ⟨_, _, _, rfl, _⟩ := id h
    exact pure_lets_by h
theorem ok_bars (T : Txt K mg) {f : Addr} {fd : FuncData} (F : FunD K "bars" "bars" (defArgs s_bars) (defBody s_bars) (defScope s_bars) [] [] f fd) (c_nights_of : Y.Cal P w K mg base CX0 1 "nights_of" (sp_nights_of K) []) (c_Book_tells_of : Y.Met P w K mg base CX0 2 (He.ga K "Book") "tells_of" (sp_Book_tells_of K) []) : FnG P w K mg base CX0 3 f fd ["book", "stay"] (sp_bars K) := by
  refine g_def F sc_bars (fun vs H Q E h => ?_) (fun cdv A outer s H vs Q E hr h => ⟨t_bars K, PSs.nox ?_, ?_⟩)
  · obtain ⟨_, _, rfl, _⟩ := h
    rfl
  · exact (pss_cons (ps_asg (pv 1) (pg_tup (by rfl) (pgs_cons (pg_name (i := 2) sc_bars.nd rfl (Or.inl rfl)) (pgs_cons (pg_name (i := 3) sc_bars.nd rfl (Or.inl rfl)) pgs_nil))))
  (pss_cons (ps_setLc (i := 4) (own := [("night", 5)]) (g := (gName 5)) (tt := (tTest (tOp rIsN (tMeth (He.ga K "Book") "tells_of" (sp_Book_tells_of K) [] E0 (tVar 0) (tCons (tC (.str "price")) (tCons (tVar 5) tNil))) (tC .non)))) rfl sc_bars.nd rfl rfl (sw_true rfl rfl rfl (by decide +kernel)) (pi_list (Y.pe_c c_nights_of hr (by decide) rfl pass0 (pa_cons (pv 1) pa_nil))) (blkOk_by (own := [("night", 5)]) (N := ["book", "stay", "come", "go", "found", "night"]) (sc := defScope s_bars) (by decide +kernel)) (fun _ _ _ _ _ => (pg_name (i := 5) sc_bars.nd rfl (Or.inl rfl))) (fun _ _ _ _ _ => (pts_one (pt_cmpR op_isN (Y.pe_m c_Book_tells_of hr (by decide) pass0 (pv 0) (pa_cons pe_str (pa_cons (pv 5) pa_nil))) pe_non (nomark _)))) (fun _ _ _ _ _ => (pe_tup (pa_cons pe_str (pa_cons (pv 5) pa_nil)))))
  (pss_cons (ps_if (pt_not (pt_truth (Y.pe_m c_Book_tells_of hr (by decide) pass0 (pv 0) (pa_cons pe_str (pa_cons (pv 2) pa_nil))) (by intro _; rfl))) (pss_one (ps_expr (pe_bm PySem.F.plainAttrs_list PySem.F.slot_list_append PySem.F.type_list_append mt_append (pv 4) (pa_cons (pe_tup (pa_cons pe_str (pa_cons (pv 2) pa_nil))) pa_nil)))) pss_nil)
  (pss_cons (ps_if (pt_not (pt_truth (Y.pe_m c_Book_tells_of hr (by decide) pass0 (pv 0) (pa_cons pe_str (pa_cons (pv 3) pa_nil))) (by intro _; rfl))) (pss_one (ps_expr (pe_bm PySem.F.plainAttrs_list PySem.F.slot_list_append PySem.F.type_list_append mt_append (pv 4) (pa_cons (pe_tup (pa_cons pe_str (pa_cons (pv 3) pa_nil))) pa_nil)))) pss_nil)
  (pss_cons (ps_if (pt_cmpR op_lt (pe_op op_sub (pv 3) (pv 2)) (Y.pe_m c_Book_tells_of hr (by decide) pass0 (pv 0) (pa_cons pe_str (pa_cons (pv 2) pa_nil))) (nomark _)) (pss_one (ps_expr (pe_bm PySem.F.plainAttrs_list PySem.F.slot_list_append PySem.F.type_list_append mt_append (pv 4) (pa_cons (pe_tup (pa_cons pe_str (pa_cons (pv 2) pa_nil))) pa_nil)))) pss_nil)
  (pss_cons (ps_if (pt_cmpR op_gt (pe_op op_sub (pv 3) (pv 2)) (Y.pe_m c_Book_tells_of hr (by decide) pass0 (pv 0) (pa_cons pe_str (pa_cons (pv 2) pa_nil))) (nomark _)) (pss_one (ps_expr (pe_bm PySem.F.plainAttrs_list PySem.F.slot_list_append PySem.F.type_list_append mt_append (pv 4) (pa_cons (pe_tup (pa_cons pe_str (pa_cons (pv 2) pa_nil))) pa_nil)))) pss_nil)
  (pss_one (ps_ret (pv 4)))))))))
  · obtain ⟨_, _, rfl, _⟩ := id h
    exact pure_bars h
theorem ok_laid (T : Txt K mg) {f : Addr} {fd : FuncData} (F : FunD K "laid" "laid" (defArgs s_laid) (defBody s_laid) (defScope s_laid) [] [] f fd) (c_Book_rules : Y.Met P w K mg base CX0 3 (He.ga K "Book") "rules" (sp_Book_rules K) []) (c_Book : Y.Mak P w K mg base CX0 6 "Book" (He.ga K "Book") (sp_Book_init K) []) : FnG P w K mg base CX0 8 f fd ["elder", "newer"] (sp_laid K) := by
  refine g_def F sc_laid (fun vs H Q E h => ?_) (fun cdv A outer s H vs Q E hr h => ⟨t_laid K, PSs.nox ?_, ?_⟩)
  · obtain ⟨_, _, rfl, _⟩ := h
    rfl
  · exact (pss_one (ps_ret (Y.pe_k c_Book hr (by decide) rfl pass0 (pa_cons (pe_op op_cat (Y.pe_m0 c_Book_rules hr (by decide) pass0 (pv 0)) (Y.pe_m0 c_Book_rules hr (by decide) pass0 (pv 1))) pa_nil))))
  · obtain ⟨_, _, rfl, _⟩ := id h
    exact pure_laid h
theorem ok_law (T : Txt K mg) {f : Addr} {fd : FuncData} (F : FunD K "law" "law" (defArgs s_law) (defBody s_law) (defScope s_law) [] [] f fd) (c_Ltape : Y.Cal P w K mg base CX0 1 "_law_tape" (sp_Ltape K) []) (c_Ldraw : Y.Cal P w K mg base CX0 1 "_law_draw" (sp_Ldraw K) []) (c_Lbooks : Y.Cal P w K mg base CX0 8 "_law_books" (sp_Lbooks K) []) (c_show_book : Y.Cal P w K mg base CX0 4 "show_book" (sp_show_book K) []) (c_read_book : Y.Cal P w K mg base CX0 8 "read_book" (sp_read_book K) []) (c_Book_rules : Y.Met P w K mg base CX0 3 (He.ga K "Book") "rules" (sp_Book_rules K) []) (c_Lstay : Y.Cal P w K mg base CX0 2 "_law_stay" (sp_Lstay K) []) (c_best : Y.Cal P w K mg base CX0 7 "best" (sp_best K) []) (c_lets_by : Y.Cal P w K mg base CX0 7 "lets_by" (sp_lets_by K) []) (c_bars : Y.Cal P w K mg base CX0 3 "bars" (sp_bars K) []) (c_laid : Y.Cal P w K mg base CX0 8 "laid" (sp_laid K) []) : FnG P w K mg base CX0 9 f fd ["_law_script"] (sp_law K) := by
  refine g_def F sc_law (fun vs H Q E h => ?_) (fun cdv A outer s H vs Q E hr h => ⟨t_law K, PSs.nox ?_, ?_⟩)
  · obtain ⟨_, rfl, _⟩ := h
    rfl
  · exact (pss_cons (ps_set (i := 1) sc_law.nd rfl (Or.inl rfl) (Y.pe_c c_Ltape hr (by decide) rfl pass0 (pa_cons (pv 0) pa_nil)))
  (pss_cons (ps_set (i := 2) sc_law.nd rfl (Or.inl rfl) (pe_op op_add pe_int (Y.pe_c c_Ldraw hr (by decide) rfl pass0 (pa_cons (pv 1) (pa_cons pe_int pa_nil)))))
  (pss_cons (ps_set (i := 3) sc_law.nd rfl (Or.inl rfl) (pe_ix ix_list (pe_lst (pa_cons pe_int (pa_cons (pe_op op_sub (pe_op op_pow pe_int pe_int) pe_int) (pa_cons (pe_op op_add pe_int (Y.pe_c c_Ldraw hr (by decide) rfl pass0 (pa_cons (pv 1) (pa_cons (pe_op op_sub (pe_op op_pow pe_int pe_int) pe_int) pa_nil)))) pa_nil)))) (Y.pe_c c_Ldraw hr (by decide) rfl pass0 (pa_cons (pv 1) (pa_cons pe_int pa_nil))) (fun _ _ => rfl)))
  (pss_cons (ps_set (i := 4) sc_law.nd rfl (Or.inl rfl) (Y.pe_c c_Lbooks hr (by decide) rfl pass0 (pa_cons (pv 1) (pa_cons (pv 3) (pa_cons (pv 2) pa_nil)))))
  (pss_cons (ps_setLc (i := 5) (own := [("_law_book", 12)]) (g := (gName 12)) (tt := tYes) rfl sc_law.nd rfl rfl (sw_true rfl rfl rfl (by decide +kernel)) (pi_list (pv 4)) (blkOk_by (own := [("_law_book", 12)]) (N := ["_law_script", "_law_tape_here", "_law_days", "_law_base", "_law_books_here", "_law_texts", "_law_read", "_law_turn", "_law_stay_here", "_law_one", "_law_other", "_law_both", "_law_book", "_law_text"]) (sc := defScope s_law) (by decide +kernel)) (fun _ _ _ _ _ => (pg_name (i := 12) sc_law.nd rfl (Or.inl rfl))) (fun _ _ _ _ _ => pts_nil) (fun _ _ _ _ _ => (Y.pe_c c_show_book hr (by decide) rfl pass0 (pa_cons (pv 12) pa_nil))))
  (pss_cons (ps_setLc (i := 6) (own := [("_law_text", 13)]) (g := (gName 13)) (tt := tYes) rfl sc_law.nd rfl rfl (sw_true rfl rfl rfl (by decide +kernel)) (pi_list (pv 5)) (blkOk_by (own := [("_law_text", 13)]) (N := ["_law_script", "_law_tape_here", "_law_days", "_law_base", "_law_books_here", "_law_texts", "_law_read", "_law_turn", "_law_stay_here", "_law_one", "_law_other", "_law_both", "_law_book", "_law_text"]) (sc := defScope s_law) (by decide +kernel)) (fun _ _ _ _ _ => (pg_name (i := 13) sc_law.nd rfl (Or.inl rfl))) (fun _ _ _ _ _ => pts_nil) (fun _ _ _ _ _ => (Y.pe_c c_read_book hr (by decide) rfl pass0 (pa_cons (pv 13) pa_nil))))
  (pss_cons (ps_if (pt_cmpR (op_neD hr.units) (pe_lc (own := [("_law_book", 12)]) (g := (gName 12)) (tt := tYes) rfl sc_law.nd (pi_list (pv 6)) (blkOk_by (own := [("_law_book", 12)]) (N := ["_law_script", "_law_tape_here", "_law_days", "_law_base", "_law_books_here", "_law_texts", "_law_read", "_law_turn", "_law_stay_here", "_law_one", "_law_other", "_law_both", "_law_book", "_law_text"]) (sc := defScope s_law) (by decide +kernel)) (fun _ _ _ _ _ => (pg_name (i := 12) sc_law.nd rfl (Or.inl rfl))) (fun _ _ _ _ _ => pts_nil) (fun _ _ _ _ _ => (Y.pe_c c_show_book hr (by decide) rfl pass0 (pa_cons (pv 12) pa_nil)))) (pv 5) (nomark _)) (pss_one (ps_ret pe_bl)) pss_nil)
  (pss_cons (ps_if (pt_cmpR op_ne (pe_callB (Y.call_reprD hr) (by rfl) T.b_repr (by decide +kernel) (pa_cons (pe_lc (own := [("_law_book", 12)]) (g := (gName 12)) (tt := tYes) rfl sc_law.nd (pi_list (pv 6)) (blkOk_by (own := [("_law_book", 12)]) (N := ["_law_script", "_law_tape_here", "_law_days", "_law_base", "_law_books_here", "_law_texts", "_law_read", "_law_turn", "_law_stay_here", "_law_one", "_law_other", "_law_both", "_law_book", "_law_text"]) (sc := defScope s_law) (by decide +kernel)) (fun _ _ _ _ _ => (pg_name (i := 12) sc_law.nd rfl (Or.inl rfl))) (fun _ _ _ _ _ => pts_nil) (fun _ _ _ _ _ => (Y.pe_m0 c_Book_rules hr (by decide) pass0 (pv 12)))) pa_nil)) (pe_callB (Y.call_reprD hr) (by rfl) T.b_repr (by decide +kernel) (pa_cons (pe_lc (own := [("_law_book", 12)]) (g := (gName 12)) (tt := tYes) rfl sc_law.nd (pi_list (pv 4)) (blkOk_by (own := [("_law_book", 12)]) (N := ["_law_script", "_law_tape_here", "_law_days", "_law_base", "_law_books_here", "_law_texts", "_law_read", "_law_turn", "_law_stay_here", "_law_one", "_law_other", "_law_both", "_law_book", "_law_text"]) (sc := defScope s_law) (by decide +kernel)) (fun _ _ _ _ _ => (pg_name (i := 12) sc_law.nd rfl (Or.inl rfl))) (fun _ _ _ _ _ => pts_nil) (fun _ _ _ _ _ => (Y.pe_m0 c_Book_rules hr (by decide) pass0 (pv 12)))) pa_nil)) (nomark _)) (pss_one (ps_ret pe_bl)) pss_nil)
  (pss_cons (ps_for PassesOwn.never rfl (pi_range1 rfl T.b_range (pa_cons pe_int pa_nil)) (pg_name (i := 7) sc_law.nd rfl (Or.inl rfl)) (pss_cons (ps_set (i := 8) sc_law.nd rfl (Or.inr rfl) (Y.pe_c c_Lstay hr (by decide) rfl pass0 (pa_cons (pv 1) (pa_cons (pv 3) (pa_cons (pv 2) pa_nil)))))
  (pss_cons (ps_set (i := 9) sc_law.nd rfl (Or.inl rfl) (Y.pe_c c_best hr (by decide) rfl pass0 (pa_cons (pe_callTy call_list_of (by rfl) T.b_list (by decide +kernel) (pa_cons (pv 4) pa_nil)) (pa_cons (pv 8) pa_nil))))
  (pss_cons (ps_set (i := 10) sc_law.nd rfl (Or.inl rfl) (Y.pe_c c_best hr (by decide) rfl pass0 (pa_cons (pe_callTy call_list_of (by rfl) T.b_list (by decide +kernel) (pa_cons (pv 6) pa_nil)) (pa_cons (pv 8) pa_nil))))
  (pss_cons (ps_if (PW.pt (pw_or (pt_cmpR op_ne (pe_ix ix_tup (pv 9) pe_int (fun _ _ => rfl)) (pe_ix ix_tup (pv 10) pe_int (fun _ _ => rfl)) (nomark _)) (pw_or1 (PW.pt (pw_and (pt_cmpR op_eq (pe_ix ix_tup (pv 9) pe_int (fun _ _ => rfl)) pe_str (nomark _)) (pw_and1 (pt_cmpR op_ne (pe_ix ix_tup (pv 9) pe_int (fun _ _ => rfl)) (pe_ix ix_tup (pv 10) pe_int (fun _ _ => rfl)) (nomark _)))))))) (pss_one (ps_ret pe_bl)) pss_nil)
  (pss_cons (ps_if (PW.pt (pw_or (pt_cmpR Y.op_notB (Y.pe_c c_lets_by hr (by decide) rfl pass0 (pa_cons (pe_callTy call_list_of (by rfl) T.b_list (by decide +kernel) (pa_cons (pv 6) pa_nil)) (pa_cons (pv 8) (pa_cons (pv 9) pa_nil)))) pe_bl (nomark _)) (pw_or1 (pt_cmpR Y.op_notB (Y.pe_c c_lets_by hr (by decide) rfl pass0 (pa_cons (pe_callTy call_list_of (by rfl) T.b_list (by decide +kernel) (pa_cons (pv 4) pa_nil)) (pa_cons (pv 8) (pa_cons (pv 10) pa_nil)))) pe_bl (nomark _))))) (pss_one (ps_ret pe_bl)) pss_nil)
  (pss_one (ps_if (pt_cmpR (op_neD hr.units) (pe_lc (own := [("_law_book", 12)]) (g := (gName 12)) (tt := tYes) rfl sc_law.nd (pi_list (pv 4)) (blkOk_by (own := [("_law_book", 12)]) (N := ["_law_script", "_law_tape_here", "_law_days", "_law_base", "_law_books_here", "_law_texts", "_law_read", "_law_turn", "_law_stay_here", "_law_one", "_law_other", "_law_both", "_law_book", "_law_text"]) (sc := defScope s_law) (by decide +kernel)) (fun _ _ _ _ _ => (pg_name (i := 12) sc_law.nd rfl (Or.inl rfl))) (fun _ _ _ _ _ => pts_nil) (fun _ _ _ _ _ => (Y.pe_c c_bars hr (by decide) rfl pass0 (pa_cons (pv 12) (pa_cons (pv 8) pa_nil))))) (pe_lc (own := [("_law_book", 12)]) (g := (gName 12)) (tt := tYes) rfl sc_law.nd (pi_list (pv 6)) (blkOk_by (own := [("_law_book", 12)]) (N := ["_law_script", "_law_tape_here", "_law_days", "_law_base", "_law_books_here", "_law_texts", "_law_read", "_law_turn", "_law_stay_here", "_law_one", "_law_other", "_law_both", "_law_book", "_law_text"]) (sc := defScope s_law) (by decide +kernel)) (fun _ _ _ _ _ => (pg_name (i := 12) sc_law.nd rfl (Or.inl rfl))) (fun _ _ _ _ _ => pts_nil) (fun _ _ _ _ _ => (Y.pe_c c_bars hr (by decide) rfl pass0 (pa_cons (pv 12) (pa_cons (pv 8) pa_nil))))) (nomark _)) (pss_one (ps_ret pe_bl)) pss_nil))))))))
  (pss_cons (ps_if (pt_cmpR op_gt (pe_op op_add (pe_callB call_len_seq (by rfl) T.b_len (by decide +kernel) (pa_cons (Y.pe_m0 c_Book_rules hr (by decide) pass0 (pe_ix ix_list (pv 4) pe_int (fun _ _ => rfl))) pa_nil)) (pe_callB call_len_seq (by rfl) T.b_len (by decide +kernel) (pa_cons (Y.pe_m0 c_Book_rules hr (by decide) pass0 (pe_ix ix_list (pv 4) (pe_un un_neg pe_int) (fun _ _ => rfl))) pa_nil))) pe_int (nomark _)) (pss_one (ps_ret pe_bl)) pss_nil)
  (pss_cons (ps_set (i := 11) sc_law.nd rfl (Or.inl rfl) (Y.pe_c c_read_book hr (by decide) rfl pass0 (pa_cons (pe_op op_add_str (pe_ix ix_list (pv 5) pe_int (fun _ _ => rfl)) (pe_ix ix_list (pv 5) (pe_un un_neg pe_int) (fun _ _ => rfl))) pa_nil)))
  (pss_one (ps_ret (pe_cmpR op_eq (pe_callB (Y.call_reprD hr) (by rfl) T.b_repr (by decide +kernel) (pa_cons (Y.pe_m0 c_Book_rules hr (by decide) pass0 (pv 11)) pa_nil)) (pe_callB (Y.call_reprD hr) (by rfl) T.b_repr (by decide +kernel) (pa_cons (Y.pe_m0 c_Book_rules hr (by decide) pass0 (Y.pe_c c_laid hr (by decide) rfl pass0 (pa_cons (pe_ix ix_list (pv 4) pe_int (fun _ _ => rfl)) (pa_cons (pe_ix ix_list (pv 4) (pe_un un_neg pe_int) (fun _ _ => rfl)) pa_nil)))) pa_nil)) (nomark _)))))))))))))))
  · obtain ⟨_, rfl, _⟩ := id h
    exact pure_law h
end
theorem facts {P : Program} {w : World} {K : PySem.W.Frag} {h : Heap} {mg : Str → Option Value} {f : Addr} (X : K.In h) (G : h.Ns mainGlobals mg) (hfa : mg ("law" : Str) = some (.ref f)) (c : He.SaysD fa fn K) :
    ∃ fd : FuncData, (∀ (s : Shared) (v : Value), BindsTo s fd ⟨[v], []⟩ [("_law_script", v)]) ∧ ∀ base : Heap, K.In base → base.Ns mainGlobals mg → FnG P w K mg base CX0 9 f fd ["_law_script"] (sp_law K) := by
  obtain ⟨fd_Ltape, F_Ltape⟩ := c.def_ 0 (d := d_Ltape) rfl
  obtain ⟨fd_Ldraw, F_Ldraw⟩ := c.def_ 1 (d := d_Ldraw) rfl
  obtain ⟨fd_Lcoins, F_Lcoins⟩ := c.def_ 2 (d := d_Lcoins) rfl
  obtain ⟨fd_Lprice_rules, F_Lprice_rules⟩ := c.def_ 3 (d := d_Lprice_rules) rfl
  obtain ⟨fd_Lworth, F_Lworth⟩ := c.def_ 4 (d := d_Lworth) rfl
  obtain ⟨fd_Lother_rules, F_Lother_rules⟩ := c.def_ 5 (d := d_Lother_rules) rfl
  obtain ⟨fd_Lrules, F_Lrules⟩ := c.def_ 6 (d := d_Lrules) rfl
  obtain ⟨fd_is_whole, F_is_whole⟩ := c.def_ 7 (d := d_is_whole) rfl
  obtain ⟨fd_is_day, F_is_day⟩ := c.def_ 8 (d := d_is_day) rfl
  obtain ⟨fd_is_two_days, F_is_two_days⟩ := c.def_ 9 (d := d_is_two_days) rfl
  obtain ⟨fd_is_stretch, F_is_stretch⟩ := c.def_ 10 (d := d_is_stretch) rfl
  obtain ⟨fd_Price_init, F_Price_init⟩ := c.def_ 11 (d := d_Price_init) rfl
  obtain ⟨fd_Come_init, F_Come_init⟩ := c.def_ 12 (d := d_Come_init) rfl
  obtain ⟨fd_Go_init, F_Go_init⟩ := c.def_ 13 (d := d_Go_init) rfl
  obtain ⟨fd_Least_init, F_Least_init⟩ := c.def_ 14 (d := d_Least_init) rfl
  obtain ⟨fd_Most_init, F_Most_init⟩ := c.def_ 15 (d := d_Most_init) rfl
  obtain ⟨fd_Deal_init, F_Deal_init⟩ := c.def_ 16 (d := d_Deal_init) rfl
  obtain ⟨fd_Fee_init, F_Fee_init⟩ := c.def_ 17 (d := d_Fee_init) rfl
  obtain ⟨fd_made, F_made⟩ := c.def_ 18 (d := d_made) rfl
  obtain ⟨fd_is_coins, F_is_coins⟩ := c.def_ 19 (d := d_is_coins) rfl
  obtain ⟨fd_Price_fits, F_Price_fits⟩ := c.def_ 20 (d := d_Price_fits) rfl
  obtain ⟨fd_Come_fits, F_Come_fits⟩ := c.def_ 21 (d := d_Come_fits) rfl
  obtain ⟨fd_Go_fits, F_Go_fits⟩ := c.def_ 22 (d := d_Go_fits) rfl
  obtain ⟨fd_is_nights, F_is_nights⟩ := c.def_ 23 (d := d_is_nights) rfl
  obtain ⟨fd_Least_fits, F_Least_fits⟩ := c.def_ 24 (d := d_Least_fits) rfl
  obtain ⟨fd_Most_fits, F_Most_fits⟩ := c.def_ 25 (d := d_Most_fits) rfl
  obtain ⟨fd_Deal_fits, F_Deal_fits⟩ := c.def_ 26 (d := d_Deal_fits) rfl
  obtain ⟨fd_Fee_fits, F_Fee_fits⟩ := c.def_ 27 (d := d_Fee_fits) rfl
  obtain ⟨fd_rule_of, F_rule_of⟩ := c.def_ 28 (d := d_rule_of) rfl
  obtain ⟨fd_Price_word, F_Price_word⟩ := c.def_ 29 (d := d_Price_word) rfl
  obtain ⟨fd_Come_word, F_Come_word⟩ := c.def_ 30 (d := d_Come_word) rfl
  obtain ⟨fd_Go_word, F_Go_word⟩ := c.def_ 31 (d := d_Go_word) rfl
  obtain ⟨fd_Least_word, F_Least_word⟩ := c.def_ 32 (d := d_Least_word) rfl
  obtain ⟨fd_Most_word, F_Most_word⟩ := c.def_ 33 (d := d_Most_word) rfl
  obtain ⟨fd_Deal_word, F_Deal_word⟩ := c.def_ 34 (d := d_Deal_word) rfl
  obtain ⟨fd_Fee_word, F_Fee_word⟩ := c.def_ 35 (d := d_Fee_word) rfl
  obtain ⟨fd_Book_init, F_Book_init⟩ := c.def_ 36 (d := d_Book_init) rfl
  obtain ⟨fd_Lbooks, F_Lbooks⟩ := c.def_ 37 (d := d_Lbooks) rfl
  obtain ⟨fd_Price_told, F_Price_told⟩ := c.def_ 38 (d := d_Price_told) rfl
  obtain ⟨fd_Come_told, F_Come_told⟩ := c.def_ 39 (d := d_Come_told) rfl
  obtain ⟨fd_Go_told, F_Go_told⟩ := c.def_ 40 (d := d_Go_told) rfl
  obtain ⟨fd_Least_told, F_Least_told⟩ := c.def_ 41 (d := d_Least_told) rfl
  obtain ⟨fd_Most_told, F_Most_told⟩ := c.def_ 42 (d := d_Most_told) rfl
  obtain ⟨fd_Deal_told, F_Deal_told⟩ := c.def_ 43 (d := d_Deal_told) rfl
  obtain ⟨fd_Fee_told, F_Fee_told⟩ := c.def_ 44 (d := d_Fee_told) rfl
  obtain ⟨fd_Book_rules, F_Book_rules⟩ := c.def_ 45 (d := d_Book_rules) rfl
  obtain ⟨fd_worth_text, F_worth_text⟩ := c.def_ 46 (d := d_worth_text) rfl
  obtain ⟨fd_rule_text, F_rule_text⟩ := c.def_ 47 (d := d_rule_text) rfl
  obtain ⟨fd_show_book, F_show_book⟩ := c.def_ 48 (d := d_show_book) rfl
  obtain ⟨fd_number_by, F_number_by⟩ := c.def_ 49 (d := d_number_by) rfl
  obtain ⟨fd_worths_by, F_worths_by⟩ := c.def_ 50 (d := d_worths_by) rfl
  obtain ⟨fd_rule_by, F_rule_by⟩ := c.def_ 51 (d := d_rule_by) rfl
  obtain ⟨fd_read_book, F_read_book⟩ := c.def_ 52 (d := d_read_book) rfl
  obtain ⟨fd_Lstay, F_Lstay⟩ := c.def_ 53 (d := d_Lstay) rfl
  obtain ⟨fd_Price_tells, F_Price_tells⟩ := c.def_ 54 (d := d_Price_tells) rfl
  obtain ⟨fd_Come_tells, F_Come_tells⟩ := c.def_ 55 (d := d_Come_tells) rfl
  obtain ⟨fd_Go_tells, F_Go_tells⟩ := c.def_ 56 (d := d_Go_tells) rfl
  obtain ⟨fd_Least_tells, F_Least_tells⟩ := c.def_ 57 (d := d_Least_tells) rfl
  obtain ⟨fd_Most_tells, F_Most_tells⟩ := c.def_ 58 (d := d_Most_tells) rfl
  obtain ⟨fd_Deal_tells, F_Deal_tells⟩ := c.def_ 59 (d := d_Deal_tells) rfl
  obtain ⟨fd_Fee_tells, F_Fee_tells⟩ := c.def_ 60 (d := d_Fee_tells) rfl
  obtain ⟨fd_usual, F_usual⟩ := c.def_ 61 (d := d_usual) rfl
  obtain ⟨fd_Book_tells_of, F_Book_tells_of⟩ := c.def_ 62 (d := d_Book_tells_of) rfl
  obtain ⟨fd_nights_of, F_nights_of⟩ := c.def_ 63 (d := d_nights_of) rfl
  obtain ⟨fd_can_be_had, F_can_be_had⟩ := c.def_ 64 (d := d_can_be_had) rfl
  obtain ⟨fd_marked, F_marked⟩ := c.def_ 65 (d := d_marked) rfl
  obtain ⟨fd_bill, F_bill⟩ := c.def_ 66 (d := d_bill) rfl
  obtain ⟨fd_coins_of, F_coins_of⟩ := c.def_ 67 (d := d_coins_of) rfl
  obtain ⟨fd_parts_from, F_parts_from⟩ := c.def_ 68 (d := d_parts_from) rfl
  obtain ⟨fd_ways, F_ways⟩ := c.def_ 69 (d := d_ways) rfl
  obtain ⟨fd_paper_by, F_paper_by⟩ := c.def_ 70 (d := d_paper_by) rfl
  obtain ⟨fd_cut_by, F_cut_by⟩ := c.def_ 71 (d := d_cut_by) rfl
  obtain ⟨fd_best, F_best⟩ := c.def_ 72 (d := d_best) rfl
  obtain ⟨fd_priced_parts, F_priced_parts⟩ := c.def_ 73 (d := d_priced_parts) rfl
  obtain ⟨fd_is_shut, F_is_shut⟩ := c.def_ 74 (d := d_is_shut) rfl
  obtain ⟨fd_is_stay, F_is_stay⟩ := c.def_ 75 (d := d_is_stay) rfl
  obtain ⟨fd_is_part, F_is_part⟩ := c.def_ 76 (d := d_is_part) rfl
  obtain ⟨fd_is_cut, F_is_cut⟩ := c.def_ 77 (d := d_is_cut) rfl
  obtain ⟨fd_cost, F_cost⟩ := c.def_ 78 (d := d_cost) rfl
  obtain ⟨fd_cost_of, F_cost_of⟩ := c.def_ 79 (d := d_cost_of) rfl
  obtain ⟨fd_is_paper, F_is_paper⟩ := c.def_ 80 (d := d_is_paper) rfl
  obtain ⟨fd_lets_by, F_lets_by⟩ := c.def_ 81 (d := d_lets_by) rfl
  obtain ⟨fd_bars, F_bars⟩ := c.def_ 82 (d := d_bars) rfl
  obtain ⟨fd_laid, F_laid⟩ := c.def_ 83 (d := d_laid) rfl
  obtain ⟨fd_law, F_law⟩ := c.def_ 84 (d := d_law) rfl
  obtain ⟨tk0, ek0⟩ := He.str_ok X G (c.fact 109 (f := .str "FIGURES" "0123456789") rfl)
  obtain ⟨tk1, ek1⟩ := He.int_ok X G (c.fact 110 (f := .int "LAST_DAY" 1000000) rfl)
  obtain ⟨tk2, ek2⟩ := He.int_ok X G (c.fact 111 (f := .int "MOST_COINS" 1000000000000) rfl)
  obtain ⟨tk3, ek3⟩ := He.int_ok X G (c.fact 112 (f := .int "MOST_NIGHTS" 14) rfl)
  obtain ⟨tk4, ek4⟩ := He.int_ok X G (c.fact 113 (f := .int "MOST_RULES" 24) rfl)
  have T : Txt K mg := ⟨He.free_ok X G (c.fact 93 (f := .free "abs") rfl), He.free_ok X G (c.fact 94 (f := .free "all") rfl), He.free_ok X G (c.fact 95 (f := .free "any") rfl), He.free_ok X G (c.fact 96 (f := .free "bool") rfl), He.free_ok X G (c.fact 97 (f := .free "enumerate") rfl), He.free_ok X G (c.fact 98 (f := .free "int") rfl), He.free_ok X G (c.fact 99 (f := .free "isinstance") rfl), He.free_ok X G (c.fact 100 (f := .free "len") rfl), He.free_ok X G (c.fact 101 (f := .free "list") rfl), He.free_ok X G (c.fact 102 (f := .free "max") rfl), He.free_ok X G (c.fact 103 (f := .free "range") rfl), He.free_ok X G (c.fact 104 (f := .free "repr") rfl), He.free_ok X G (c.fact 105 (f := .free "sorted") rfl), He.free_ok X G (c.fact 106 (f := .free "str") rfl), He.free_ok X G (c.fact 107 (f := .free "sum") rfl), He.free_ok X G (c.fact 108 (f := .free "tuple") rfl), ⟨_, ek0, tk0, rfl⟩, ⟨_, ek1, tk1, rfl⟩, ⟨_, ek2, tk2, rfl⟩, ⟨_, ek3, tk3, rfl⟩, ⟨_, ek4, tk4, rfl⟩, ⟨_, He.glo_ok X G (c.fact 114 (f := .glo "WORDS") rfl), rfl⟩, He.glo_ok X G (c.fact 115 (f := .glo "Book") rfl), He.glo_ok X G (c.fact 116 (f := .glo "Come") rfl), He.glo_ok X G (c.fact 117 (f := .glo "Deal") rfl), He.glo_ok X G (c.fact 118 (f := .glo "Fee") rfl), He.glo_ok X G (c.fact 119 (f := .glo "Go") rfl), He.glo_ok X G (c.fact 120 (f := .glo "Least") rfl), He.glo_ok X G (c.fact 121 (f := .glo "Most") rfl), He.glo_ok X G (c.fact 122 (f := .glo "Price") rfl)⟩
  have e := hfa.symm.trans (He.glo_ok X G (c.fact 92 (f := .glo "law") rfl))
  cases e
  have b := FunD.bindsA (ps := ["_law_script"]) F_law fun _ _ _ _ _ _ us hl => match us, hl with | [_], _ => rfl
  refine ⟨fd_law, fun s v => b s [v] rfl, fun base _ _ => ?_⟩
  have c_Ltape : Y.Cal P w K mg base CX0 1 "_law_tape" (sp_Ltape K) [] := ⟨_, fd_Ltape, ["_law_script"], [], ok_Ltape T F_Ltape , He.glo_ok X G (c.fact 0 (f := .glo "_law_tape") rfl), F_Ltape.kp, F_Ltape.bindsN fun _ _ _ _ _ _ us hl => match us, hl with | [_], _ => rfl, .nil⟩
  have c_Ldraw : Y.Cal P w K mg base CX0 1 "_law_draw" (sp_Ldraw K) [] := ⟨_, fd_Ldraw, ["_law_tape_here", "_law_many"], [], ok_Ldraw T F_Ldraw , He.glo_ok X G (c.fact 1 (f := .glo "_law_draw") rfl), F_Ldraw.kp, F_Ldraw.bindsN fun _ _ _ _ _ _ us hl => match us, hl with | [_, _], _ => rfl, .nil⟩
  have c_Lcoins : Y.Cal P w K mg base CX0 2 "_law_coins" (sp_Lcoins K) [] := ⟨_, fd_Lcoins, ["_law_tape_here"], [], ok_Lcoins T F_Lcoins c_Ldraw, He.glo_ok X G (c.fact 2 (f := .glo "_law_coins") rfl), F_Lcoins.kp, F_Lcoins.bindsN fun _ _ _ _ _ _ us hl => match us, hl with | [_], _ => rfl, .nil⟩
  have c_Lprice_rules : Y.Cal P w K mg base CX0 3 "_law_price_rules" (sp_Lprice_rules K) [] := ⟨_, fd_Lprice_rules, ["_law_tape_here", "_law_base", "_law_days"], [], ok_Lprice_rules T F_Lprice_rules c_Lcoins c_Ldraw, He.glo_ok X G (c.fact 3 (f := .glo "_law_price_rules") rfl), F_Lprice_rules.kp, F_Lprice_rules.bindsN fun _ _ _ _ _ _ us hl => match us, hl with | [_, _, _], _ => rfl, .nil⟩
  have c_Lworth : Y.Cal P w K mg base CX0 3 "_law_worth" (sp_Lworth K) [] := ⟨_, fd_Lworth, ["_law_tape_here", "_law_word"], [], ok_Lworth T F_Lworth c_Lcoins c_Ldraw, He.glo_ok X G (c.fact 4 (f := .glo "_law_worth") rfl), F_Lworth.kp, F_Lworth.bindsN fun _ _ _ _ _ _ us hl => match us, hl with | [_, _], _ => rfl, .nil⟩
  have c_Lother_rules : Y.Cal P w K mg base CX0 4 "_law_other_rules" (sp_Lother_rules K) [] := ⟨_, fd_Lother_rules, ["_law_tape_here", "_law_base", "_law_days"], [], ok_Lother_rules T F_Lother_rules c_Ldraw c_Lworth, He.glo_ok X G (c.fact 5 (f := .glo "_law_other_rules") rfl), F_Lother_rules.kp, F_Lother_rules.bindsN fun _ _ _ _ _ _ us hl => match us, hl with | [_, _, _], _ => rfl, .nil⟩
  have c_Lrules : Y.Cal P w K mg base CX0 5 "_law_rules" (sp_Lrules K) [] := ⟨_, fd_Lrules, ["_law_tape_here", "_law_base", "_law_days"], [], ok_Lrules T F_Lrules c_Lprice_rules c_Lother_rules c_Ldraw, He.glo_ok X G (c.fact 6 (f := .glo "_law_rules") rfl), F_Lrules.kp, F_Lrules.bindsN fun _ _ _ _ _ _ us hl => match us, hl with | [_, _, _], _ => rfl, .nil⟩
  have c_is_whole : Y.Cal P w K mg base CX0 1 "is_whole" (sp_is_whole K) [] := ⟨_, fd_is_whole, ["thing"], [], ok_is_whole T F_is_whole , He.glo_ok X G (c.fact 7 (f := .glo "is_whole") rfl), F_is_whole.kp, F_is_whole.bindsN fun _ _ _ _ _ _ us hl => match us, hl with | [_], _ => rfl, .nil⟩
  have c_is_day : Y.Cal P w K mg base CX0 2 "is_day" (sp_is_day K) [] := ⟨_, fd_is_day, ["thing"], [], ok_is_day T F_is_day c_is_whole, He.glo_ok X G (c.fact 8 (f := .glo "is_day") rfl), F_is_day.kp, F_is_day.bindsN fun _ _ _ _ _ _ us hl => match us, hl with | [_], _ => rfl, .nil⟩
  have c_is_two_days : Y.Cal P w K mg base CX0 3 "is_two_days" (sp_is_two_days K) [] := ⟨_, fd_is_two_days, ["thing"], [], ok_is_two_days T F_is_two_days c_is_day, He.glo_ok X G (c.fact 9 (f := .glo "is_two_days") rfl), F_is_two_days.kp, F_is_two_days.bindsN fun _ _ _ _ _ _ us hl => match us, hl with | [_], _ => rfl, .nil⟩
  have c_is_stretch : Y.Cal P w K mg base CX0 4 "is_stretch" (sp_is_stretch K) [] := ⟨_, fd_is_stretch, ["thing"], [], ok_is_stretch T F_is_stretch c_is_two_days, He.glo_ok X G (c.fact 10 (f := .glo "is_stretch") rfl), F_is_stretch.kp, F_is_stretch.bindsN fun _ _ _ _ _ _ us hl => match us, hl with | [_], _ => rfl, .nil⟩
  have c_Price : Y.Mak P w K mg base CX0 1 "Price" (He.ga K "Price") (sp_Rule_init K) [] := ⟨_, fd_Price_init, ["self", "first", "last", "worth"], [], He.mkr_ok (c.fact 11 (f := .mkr "Price") rfl), ok_Rule_init T F_Price_init , He.glo_ok X G (c.fact 122 (f := .glo "Price") rfl), F_Price_init.bindsN fun _ _ _ _ _ _ us hl => match us, hl with | [_, _, _, _], _ => rfl, .nil⟩
  have c_Come : Y.Mak P w K mg base CX0 1 "Come" (He.ga K "Come") (sp_Rule_init K) [] := ⟨_, fd_Come_init, ["self", "first", "last", "worth"], [], He.mkr_ok (c.fact 12 (f := .mkr "Come") rfl), ok_Rule_init T F_Come_init , He.glo_ok X G (c.fact 116 (f := .glo "Come") rfl), F_Come_init.bindsN fun _ _ _ _ _ _ us hl => match us, hl with | [_, _, _, _], _ => rfl, .nil⟩
  have c_Go : Y.Mak P w K mg base CX0 1 "Go" (He.ga K "Go") (sp_Rule_init K) [] := ⟨_, fd_Go_init, ["self", "first", "last", "worth"], [], He.mkr_ok (c.fact 13 (f := .mkr "Go") rfl), ok_Rule_init T F_Go_init , He.glo_ok X G (c.fact 119 (f := .glo "Go") rfl), F_Go_init.bindsN fun _ _ _ _ _ _ us hl => match us, hl with | [_, _, _, _], _ => rfl, .nil⟩
  have c_Least : Y.Mak P w K mg base CX0 1 "Least" (He.ga K "Least") (sp_Rule_init K) [] := ⟨_, fd_Least_init, ["self", "first", "last", "worth"], [], He.mkr_ok (c.fact 14 (f := .mkr "Least") rfl), ok_Rule_init T F_Least_init , He.glo_ok X G (c.fact 120 (f := .glo "Least") rfl), F_Least_init.bindsN fun _ _ _ _ _ _ us hl => match us, hl with | [_, _, _, _], _ => rfl, .nil⟩
  have c_Most : Y.Mak P w K mg base CX0 1 "Most" (He.ga K "Most") (sp_Rule_init K) [] := ⟨_, fd_Most_init, ["self", "first", "last", "worth"], [], He.mkr_ok (c.fact 15 (f := .mkr "Most") rfl), ok_Rule_init T F_Most_init , He.glo_ok X G (c.fact 121 (f := .glo "Most") rfl), F_Most_init.bindsN fun _ _ _ _ _ _ us hl => match us, hl with | [_, _, _, _], _ => rfl, .nil⟩
  have c_Deal : Y.Mak P w K mg base CX0 1 "Deal" (He.ga K "Deal") (sp_Rule_init K) [] := ⟨_, fd_Deal_init, ["self", "first", "last", "worth"], [], He.mkr_ok (c.fact 16 (f := .mkr "Deal") rfl), ok_Rule_init T F_Deal_init , He.glo_ok X G (c.fact 117 (f := .glo "Deal") rfl), F_Deal_init.bindsN fun _ _ _ _ _ _ us hl => match us, hl with | [_, _, _, _], _ => rfl, .nil⟩
  have c_Fee : Y.Mak P w K mg base CX0 1 "Fee" (He.ga K "Fee") (sp_Rule_init K) [] := ⟨_, fd_Fee_init, ["self", "first", "last", "worth"], [], He.mkr_ok (c.fact 17 (f := .mkr "Fee") rfl), ok_Rule_init T F_Fee_init , He.glo_ok X G (c.fact 118 (f := .glo "Fee") rfl), F_Fee_init.bindsN fun _ _ _ _ _ _ us hl => match us, hl with | [_, _, _, _], _ => rfl, .nil⟩
  have c_made : Y.Cal P w K mg base CX0 3 "made" (sp_made K) [] := ⟨_, fd_made, ["word", "first", "last", "worth"], [], ok_made T F_made c_Price c_Come c_Go c_Least c_Most c_Deal c_Fee, He.glo_ok X G (c.fact 18 (f := .glo "made") rfl), F_made.kp, F_made.bindsN fun _ _ _ _ _ _ us hl => match us, hl with | [_, _, _, _], _ => rfl, .nil⟩
  have c_is_coins : Y.Cal P w K mg base CX0 2 "is_coins" (sp_is_coins K) [] := ⟨_, fd_is_coins, ["thing"], [], ok_is_coins T F_is_coins c_is_whole, He.glo_ok X G (c.fact 19 (f := .glo "is_coins") rfl), F_is_coins.kp, F_is_coins.bindsN fun _ _ _ _ _ _ us hl => match us, hl with | [_], _ => rfl, .nil⟩
  have c_Price_fits : Y.Met P w K mg base CX0 3 (He.ga K "Price") "fits" (sp_Price_fits K) [] := ⟨_, fd_Price_fits, ["self"], [], He.cls_ok (c.fact 20 (f := .cls "Price") rfl), He.meth_ok (c.fact 21 (f := .meth "Price" "fits") rfl), ok_Price_fits T F_Price_fits c_is_coins, F_Price_fits.bindsN fun _ _ _ _ _ _ us hl => match us, hl with | [_], _ => rfl, .nil⟩
  have c_Come_fits : Y.Met P w K mg base CX0 1 (He.ga K "Come") "fits" (sp_Come_fits K) [] := ⟨_, fd_Come_fits, ["self"], [], He.cls_ok (c.fact 22 (f := .cls "Come") rfl), He.meth_ok (c.fact 23 (f := .meth "Come" "fits") rfl), ok_Come_fits T F_Come_fits , F_Come_fits.bindsN fun _ _ _ _ _ _ us hl => match us, hl with | [_], _ => rfl, .nil⟩
  have c_Go_fits : Y.Met P w K mg base CX0 1 (He.ga K "Go") "fits" (sp_Go_fits K) [] := ⟨_, fd_Go_fits, ["self"], [], He.cls_ok (c.fact 24 (f := .cls "Go") rfl), He.meth_ok (c.fact 25 (f := .meth "Go" "fits") rfl), ok_Go_fits T F_Go_fits , F_Go_fits.bindsN fun _ _ _ _ _ _ us hl => match us, hl with | [_], _ => rfl, .nil⟩
  have c_is_nights : Y.Cal P w K mg base CX0 2 "is_nights" (sp_is_nights K) [] := ⟨_, fd_is_nights, ["thing"], [], ok_is_nights T F_is_nights c_is_whole, He.glo_ok X G (c.fact 26 (f := .glo "is_nights") rfl), F_is_nights.kp, F_is_nights.bindsN fun _ _ _ _ _ _ us hl => match us, hl with | [_], _ => rfl, .nil⟩
  have c_Least_fits : Y.Met P w K mg base CX0 3 (He.ga K "Least") "fits" (sp_Least_fits K) [] := ⟨_, fd_Least_fits, ["self"], [], He.cls_ok (c.fact 27 (f := .cls "Least") rfl), He.meth_ok (c.fact 28 (f := .meth "Least" "fits") rfl), ok_Least_fits T F_Least_fits c_is_nights, F_Least_fits.bindsN fun _ _ _ _ _ _ us hl => match us, hl with | [_], _ => rfl, .nil⟩
  have c_Most_fits : Y.Met P w K mg base CX0 3 (He.ga K "Most") "fits" (sp_Most_fits K) [] := ⟨_, fd_Most_fits, ["self"], [], He.cls_ok (c.fact 29 (f := .cls "Most") rfl), He.meth_ok (c.fact 30 (f := .meth "Most" "fits") rfl), ok_Most_fits T F_Most_fits c_is_nights, F_Most_fits.bindsN fun _ _ _ _ _ _ us hl => match us, hl with | [_], _ => rfl, .nil⟩
  have c_Deal_fits : Y.Met P w K mg base CX0 3 (He.ga K "Deal") "fits" (sp_Deal_fits K) [] := ⟨_, fd_Deal_fits, ["self"], [], He.cls_ok (c.fact 31 (f := .cls "Deal") rfl), He.meth_ok (c.fact 32 (f := .meth "Deal" "fits") rfl), ok_Deal_fits T F_Deal_fits c_is_nights c_is_whole, F_Deal_fits.bindsN fun _ _ _ _ _ _ us hl => match us, hl with | [_], _ => rfl, .nil⟩
  have c_Fee_fits : Y.Met P w K mg base CX0 3 (He.ga K "Fee") "fits" (sp_Fee_fits K) [] := ⟨_, fd_Fee_fits, ["self"], [], He.cls_ok (c.fact 33 (f := .cls "Fee") rfl), He.meth_ok (c.fact 34 (f := .meth "Fee" "fits") rfl), ok_Fee_fits T F_Fee_fits c_is_coins, F_Fee_fits.bindsN fun _ _ _ _ _ _ us hl => match us, hl with | [_], _ => rfl, .nil⟩
  have c_rule_of : Y.Cal P w K mg base CX0 5 "rule_of" (sp_rule_of K) [] := ⟨_, fd_rule_of, ["thing"], [], ok_rule_of T F_rule_of c_is_stretch c_made c_Price_fits c_Come_fits c_Go_fits c_Least_fits c_Most_fits c_Deal_fits c_Fee_fits, He.glo_ok X G (c.fact 35 (f := .glo "rule_of") rfl), F_rule_of.kp, F_rule_of.bindsN fun _ _ _ _ _ _ us hl => match us, hl with | [_], _ => rfl, .nil⟩
  have c_Price_word : Y.Met P w K mg base CX0 1 (He.ga K "Price") "word" (sp_Price_word K) [] := ⟨_, fd_Price_word, ["self"], [], He.cls_ok (c.fact 20 (f := .cls "Price") rfl), He.meth_ok (c.fact 36 (f := .meth "Price" "word") rfl), ok_Price_word T F_Price_word , F_Price_word.bindsN fun _ _ _ _ _ _ us hl => match us, hl with | [_], _ => rfl, .nil⟩
  have c_Come_word : Y.Met P w K mg base CX0 1 (He.ga K "Come") "word" (sp_Come_word K) [] := ⟨_, fd_Come_word, ["self"], [], He.cls_ok (c.fact 22 (f := .cls "Come") rfl), He.meth_ok (c.fact 37 (f := .meth "Come" "word") rfl), ok_Come_word T F_Come_word , F_Come_word.bindsN fun _ _ _ _ _ _ us hl => match us, hl with | [_], _ => rfl, .nil⟩
  have c_Go_word : Y.Met P w K mg base CX0 1 (He.ga K "Go") "word" (sp_Go_word K) [] := ⟨_, fd_Go_word, ["self"], [], He.cls_ok (c.fact 24 (f := .cls "Go") rfl), He.meth_ok (c.fact 38 (f := .meth "Go" "word") rfl), ok_Go_word T F_Go_word , F_Go_word.bindsN fun _ _ _ _ _ _ us hl => match us, hl with | [_], _ => rfl, .nil⟩
  have c_Least_word : Y.Met P w K mg base CX0 1 (He.ga K "Least") "word" (sp_Least_word K) [] := ⟨_, fd_Least_word, ["self"], [], He.cls_ok (c.fact 27 (f := .cls "Least") rfl), He.meth_ok (c.fact 39 (f := .meth "Least" "word") rfl), ok_Least_word T F_Least_word , F_Least_word.bindsN fun _ _ _ _ _ _ us hl => match us, hl with | [_], _ => rfl, .nil⟩
  have c_Most_word : Y.Met P w K mg base CX0 1 (He.ga K "Most") "word" (sp_Most_word K) [] := ⟨_, fd_Most_word, ["self"], [], He.cls_ok (c.fact 29 (f := .cls "Most") rfl), He.meth_ok (c.fact 40 (f := .meth "Most" "word") rfl), ok_Most_word T F_Most_word , F_Most_word.bindsN fun _ _ _ _ _ _ us hl => match us, hl with | [_], _ => rfl, .nil⟩
  have c_Deal_word : Y.Met P w K mg base CX0 1 (He.ga K "Deal") "word" (sp_Deal_word K) [] := ⟨_, fd_Deal_word, ["self"], [], He.cls_ok (c.fact 31 (f := .cls "Deal") rfl), He.meth_ok (c.fact 41 (f := .meth "Deal" "word") rfl), ok_Deal_word T F_Deal_word , F_Deal_word.bindsN fun _ _ _ _ _ _ us hl => match us, hl with | [_], _ => rfl, .nil⟩
  have c_Fee_word : Y.Met P w K mg base CX0 1 (He.ga K "Fee") "word" (sp_Fee_word K) [] := ⟨_, fd_Fee_word, ["self"], [], He.cls_ok (c.fact 33 (f := .cls "Fee") rfl), He.meth_ok (c.fact 42 (f := .meth "Fee" "word") rfl), ok_Fee_word T F_Fee_word , F_Fee_word.bindsN fun _ _ _ _ _ _ us hl => match us, hl with | [_], _ => rfl, .nil⟩
  obtain ⟨ds_c_Book, vs_c_Book, bs_c_Book⟩ := FunD.binds1 (ps := ["self", "rules"]) F_Book_init 2 1 (List.cons_ne_nil _ _) rfl fun _ _ _ _ _ _ _ us its hu hi => match us, its, hu, hi with | [_, _], [_], _, _ => ⟨_, rfl, rfl⟩
  have c_Book : Y.Mak P w K mg base CX0 6 "Book" (He.ga K "Book") (sp_Book_init K) [] := ⟨_, fd_Book_init, ["self", "rules"], ds_c_Book, He.mkr_ok (c.fact 43 (f := .mkr "Book") rfl), ok_Book_init T F_Book_init c_rule_of c_Price_word c_Come_word c_Go_word c_Least_word c_Most_word c_Deal_word c_Fee_word, He.glo_ok X G (c.fact 115 (f := .glo "Book") rfl), bs_c_Book, vs_c_Book⟩
  have c_Lbooks : Y.Cal P w K mg base CX0 8 "_law_books" (sp_Lbooks K) [] := ⟨_, fd_Lbooks, ["_law_tape_here", "_law_base", "_law_days"], [], ok_Lbooks T F_Lbooks c_Ldraw c_Lrules c_Book, He.glo_ok X G (c.fact 44 (f := .glo "_law_books") rfl), F_Lbooks.kp, F_Lbooks.bindsN fun _ _ _ _ _ _ us hl => match us, hl with | [_, _, _], _ => rfl, .nil⟩
  have c_Price_told : Y.Met P w K mg base CX0 2 (He.ga K "Price") "told" (sp_Rule_told K) [] := ⟨_, fd_Price_told, ["self"], [], He.cls_ok (c.fact 20 (f := .cls "Price") rfl), He.meth_ok (c.fact 45 (f := .meth "Price" "told") rfl), ok_Rule_told T F_Price_told c_Price_word c_Come_word c_Go_word c_Least_word c_Most_word c_Deal_word c_Fee_word, F_Price_told.bindsN fun _ _ _ _ _ _ us hl => match us, hl with | [_], _ => rfl, .nil⟩
  have c_Come_told : Y.Met P w K mg base CX0 2 (He.ga K "Come") "told" (sp_Rule_told K) [] := ⟨_, fd_Come_told, ["self"], [], He.cls_ok (c.fact 22 (f := .cls "Come") rfl), He.meth_ok (c.fact 46 (f := .meth "Come" "told") rfl), ok_Rule_told T F_Come_told c_Price_word c_Come_word c_Go_word c_Least_word c_Most_word c_Deal_word c_Fee_word, F_Come_told.bindsN fun _ _ _ _ _ _ us hl => match us, hl with | [_], _ => rfl, .nil⟩
  have c_Go_told : Y.Met P w K mg base CX0 2 (He.ga K "Go") "told" (sp_Rule_told K) [] := ⟨_, fd_Go_told, ["self"], [], He.cls_ok (c.fact 24 (f := .cls "Go") rfl), He.meth_ok (c.fact 47 (f := .meth "Go" "told") rfl), ok_Rule_told T F_Go_told c_Price_word c_Come_word c_Go_word c_Least_word c_Most_word c_Deal_word c_Fee_word, F_Go_told.bindsN fun _ _ _ _ _ _ us hl => match us, hl with | [_], _ => rfl, .nil⟩
  have c_Least_told : Y.Met P w K mg base CX0 2 (He.ga K "Least") "told" (sp_Rule_told K) [] := ⟨_, fd_Least_told, ["self"], [], He.cls_ok (c.fact 27 (f := .cls "Least") rfl), He.meth_ok (c.fact 48 (f := .meth "Least" "told") rfl), ok_Rule_told T F_Least_told c_Price_word c_Come_word c_Go_word c_Least_word c_Most_word c_Deal_word c_Fee_word, F_Least_told.bindsN fun _ _ _ _ _ _ us hl => match us, hl with | [_], _ => rfl, .nil⟩
  have c_Most_told : Y.Met P w K mg base CX0 2 (He.ga K "Most") "told" (sp_Rule_told K) [] := ⟨_, fd_Most_told, ["self"], [], He.cls_ok (c.fact 29 (f := .cls "Most") rfl), He.meth_ok (c.fact 49 (f := .meth "Most" "told") rfl), ok_Rule_told T F_Most_told c_Price_word c_Come_word c_Go_word c_Least_word c_Most_word c_Deal_word c_Fee_word, F_Most_told.bindsN fun _ _ _ _ _ _ us hl => match us, hl with | [_], _ => rfl, .nil⟩
  have c_Deal_told : Y.Met P w K mg base CX0 2 (He.ga K "Deal") "told" (sp_Rule_told K) [] := ⟨_, fd_Deal_told, ["self"], [], He.cls_ok (c.fact 31 (f := .cls "Deal") rfl), He.meth_ok (c.fact 50 (f := .meth "Deal" "told") rfl), ok_Rule_told T F_Deal_told c_Price_word c_Come_word c_Go_word c_Least_word c_Most_word c_Deal_word c_Fee_word, F_Deal_told.bindsN fun _ _ _ _ _ _ us hl => match us, hl with | [_], _ => rfl, .nil⟩
  have c_Fee_told : Y.Met P w K mg base CX0 2 (He.ga K "Fee") "told" (sp_Rule_told K) [] := ⟨_, fd_Fee_told, ["self"], [], He.cls_ok (c.fact 33 (f := .cls "Fee") rfl), He.meth_ok (c.fact 51 (f := .meth "Fee" "told") rfl), ok_Rule_told T F_Fee_told c_Price_word c_Come_word c_Go_word c_Least_word c_Most_word c_Deal_word c_Fee_word, F_Fee_told.bindsN fun _ _ _ _ _ _ us hl => match us, hl with | [_], _ => rfl, .nil⟩
  have c_Book_rules : Y.Met P w K mg base CX0 3 (He.ga K "Book") "rules" (sp_Book_rules K) [] := ⟨_, fd_Book_rules, ["self"], [], He.cls_ok (c.fact 52 (f := .cls "Book") rfl), He.meth_ok (c.fact 53 (f := .meth "Book" "rules") rfl), ok_Book_rules T F_Book_rules c_Price_told c_Come_told c_Go_told c_Least_told c_Most_told c_Deal_told c_Fee_told, F_Book_rules.bindsN fun _ _ _ _ _ _ us hl => match us, hl with | [_], _ => rfl, .nil⟩
  have c_worth_text : Y.Cal P w K mg base CX0 1 "worth_text" (sp_worth_text K) [] := ⟨_, fd_worth_text, ["word", "worth"], [], ok_worth_text T F_worth_text , He.glo_ok X G (c.fact 54 (f := .glo "worth_text") rfl), F_worth_text.kp, F_worth_text.bindsN fun _ _ _ _ _ _ us hl => match us, hl with | [_, _], _ => rfl, .nil⟩
  have c_rule_text : Y.Cal P w K mg base CX0 2 "rule_text" (sp_rule_text K) [] := ⟨_, fd_rule_text, ["rule"], [], ok_rule_text T F_rule_text c_worth_text, He.glo_ok X G (c.fact 55 (f := .glo "rule_text") rfl), F_rule_text.kp, F_rule_text.bindsN fun _ _ _ _ _ _ us hl => match us, hl with | [_], _ => rfl, .nil⟩
  have c_show_book : Y.Cal P w K mg base CX0 4 "show_book" (sp_show_book K) [] := ⟨_, fd_show_book, ["book"], [], ok_show_book T F_show_book c_Book_rules c_rule_text, He.glo_ok X G (c.fact 56 (f := .glo "show_book") rfl), F_show_book.kp, F_show_book.bindsN fun _ _ _ _ _ _ us hl => match us, hl with | [_], _ => rfl, .nil⟩
  have c_number_by : Y.Cal P w K mg base CX0 1 "number_by" (sp_number_by K) [] := ⟨_, fd_number_by, ["word"], [], ok_number_by T F_number_by , He.glo_ok X G (c.fact 57 (f := .glo "number_by") rfl), F_number_by.kp, F_number_by.bindsN fun _ _ _ _ _ _ us hl => match us, hl with | [_], _ => rfl, .nil⟩
  have c_worths_by : Y.Cal P w K mg base CX0 2 "worths_by" (sp_worths_by K) [] := ⟨_, fd_worths_by, ["word", "words"], [], ok_worths_by T F_worths_by c_number_by, He.glo_ok X G (c.fact 58 (f := .glo "worths_by") rfl), F_worths_by.kp, F_worths_by.bindsN fun _ _ _ _ _ _ us hl => match us, hl with | [_, _], _ => rfl, .nil⟩
  have c_rule_by : Y.Cal P w K mg base CX0 6 "rule_by" (sp_rule_by K) [] := ⟨_, fd_rule_by, ["text"], [], ok_rule_by T F_rule_by c_number_by c_worths_by c_rule_of c_rule_text c_Price_told c_Come_told c_Go_told c_Least_told c_Most_told c_Deal_told c_Fee_told, He.glo_ok X G (c.fact 59 (f := .glo "rule_by") rfl), F_rule_by.kp, F_rule_by.bindsN fun _ _ _ _ _ _ us hl => match us, hl with | [_], _ => rfl, .nil⟩
  have c_read_book : Y.Cal P w K mg base CX0 8 "read_book" (sp_read_book K) [] := ⟨_, fd_read_book, ["thing"], [], ok_read_book T F_read_book c_rule_by c_Book, He.glo_ok X G (c.fact 60 (f := .glo "read_book") rfl), F_read_book.kp, F_read_book.bindsN fun _ _ _ _ _ _ us hl => match us, hl with | [_], _ => rfl, .nil⟩
  have c_Lstay : Y.Cal P w K mg base CX0 2 "_law_stay" (sp_Lstay K) [] := ⟨_, fd_Lstay, ["_law_tape_here", "_law_base", "_law_days"], [], ok_Lstay T F_Lstay c_Ldraw, He.glo_ok X G (c.fact 61 (f := .glo "_law_stay") rfl), F_Lstay.kp, F_Lstay.bindsN fun _ _ _ _ _ _ us hl => match us, hl with | [_, _, _], _ => rfl, .nil⟩
  have c_Price_tells : Y.Met P w K mg base CX0 1 (He.ga K "Price") "tells" (sp_Rule_tells K) [] := ⟨_, fd_Price_tells, ["self", "day"], [], He.cls_ok (c.fact 20 (f := .cls "Price") rfl), He.meth_ok (c.fact 62 (f := .meth "Price" "tells") rfl), ok_Rule_tells T F_Price_tells , F_Price_tells.bindsN fun _ _ _ _ _ _ us hl => match us, hl with | [_, _], _ => rfl, .nil⟩
  have c_Come_tells : Y.Met P w K mg base CX0 1 (He.ga K "Come") "tells" (sp_Rule_tells K) [] := ⟨_, fd_Come_tells, ["self", "day"], [], He.cls_ok (c.fact 22 (f := .cls "Come") rfl), He.meth_ok (c.fact 63 (f := .meth "Come" "tells") rfl), ok_Rule_tells T F_Come_tells , F_Come_tells.bindsN fun _ _ _ _ _ _ us hl => match us, hl with | [_, _], _ => rfl, .nil⟩
  have c_Go_tells : Y.Met P w K mg base CX0 1 (He.ga K "Go") "tells" (sp_Rule_tells K) [] := ⟨_, fd_Go_tells, ["self", "day"], [], He.cls_ok (c.fact 24 (f := .cls "Go") rfl), He.meth_ok (c.fact 64 (f := .meth "Go" "tells") rfl), ok_Rule_tells T F_Go_tells , F_Go_tells.bindsN fun _ _ _ _ _ _ us hl => match us, hl with | [_, _], _ => rfl, .nil⟩
  have c_Least_tells : Y.Met P w K mg base CX0 1 (He.ga K "Least") "tells" (sp_Rule_tells K) [] := ⟨_, fd_Least_tells, ["self", "day"], [], He.cls_ok (c.fact 27 (f := .cls "Least") rfl), He.meth_ok (c.fact 65 (f := .meth "Least" "tells") rfl), ok_Rule_tells T F_Least_tells , F_Least_tells.bindsN fun _ _ _ _ _ _ us hl => match us, hl with | [_, _], _ => rfl, .nil⟩
  have c_Most_tells : Y.Met P w K mg base CX0 1 (He.ga K "Most") "tells" (sp_Rule_tells K) [] := ⟨_, fd_Most_tells, ["self", "day"], [], He.cls_ok (c.fact 29 (f := .cls "Most") rfl), He.meth_ok (c.fact 66 (f := .meth "Most" "tells") rfl), ok_Rule_tells T F_Most_tells , F_Most_tells.bindsN fun _ _ _ _ _ _ us hl => match us, hl with | [_, _], _ => rfl, .nil⟩
  have c_Deal_tells : Y.Met P w K mg base CX0 1 (He.ga K "Deal") "tells" (sp_Rule_tells K) [] := ⟨_, fd_Deal_tells, ["self", "day"], [], He.cls_ok (c.fact 31 (f := .cls "Deal") rfl), He.meth_ok (c.fact 67 (f := .meth "Deal" "tells") rfl), ok_Rule_tells T F_Deal_tells , F_Deal_tells.bindsN fun _ _ _ _ _ _ us hl => match us, hl with | [_, _], _ => rfl, .nil⟩
  have c_Fee_tells : Y.Met P w K mg base CX0 1 (He.ga K "Fee") "tells" (sp_Rule_tells K) [] := ⟨_, fd_Fee_tells, ["self", "day"], [], He.cls_ok (c.fact 33 (f := .cls "Fee") rfl), He.meth_ok (c.fact 68 (f := .meth "Fee" "tells") rfl), ok_Rule_tells T F_Fee_tells , F_Fee_tells.bindsN fun _ _ _ _ _ _ us hl => match us, hl with | [_, _], _ => rfl, .nil⟩
  have c_usual : Y.Cal P w K mg base CX0 1 "usual" (sp_usual K) [] := ⟨_, fd_usual, ["word"], [], ok_usual T F_usual , He.glo_ok X G (c.fact 69 (f := .glo "usual") rfl), F_usual.kp, F_usual.bindsN fun _ _ _ _ _ _ us hl => match us, hl with | [_], _ => rfl, .nil⟩
  have c_Book_tells_of : Y.Met P w K mg base CX0 2 (He.ga K "Book") "tells_of" (sp_Book_tells_of K) [] := ⟨_, fd_Book_tells_of, ["self", "word", "day"], [], He.cls_ok (c.fact 52 (f := .cls "Book") rfl), He.meth_ok (c.fact 70 (f := .meth "Book" "tells_of") rfl), ok_Book_tells_of T F_Book_tells_of c_Price_tells c_Come_tells c_Go_tells c_Least_tells c_Most_tells c_Deal_tells c_Fee_tells c_usual, F_Book_tells_of.bindsN fun _ _ _ _ _ _ us hl => match us, hl with | [_, _, _], _ => rfl, .nil⟩
  have c_nights_of : Y.Cal P w K mg base CX0 1 "nights_of" (sp_nights_of K) [] := ⟨_, fd_nights_of, ["stay"], [], ok_nights_of T F_nights_of , He.glo_ok X G (c.fact 71 (f := .glo "nights_of") rfl), F_nights_of.kp, F_nights_of.bindsN fun _ _ _ _ _ _ us hl => match us, hl with | [_], _ => rfl, .nil⟩
  have c_can_be_had : Y.Cal P w K mg base CX0 3 "can_be_had" (sp_can_be_had K) [] := ⟨_, fd_can_be_had, ["book", "stay"], [], ok_can_be_had T F_can_be_had c_Book_tells_of c_nights_of, He.glo_ok X G (c.fact 72 (f := .glo "can_be_had") rfl), F_can_be_had.kp, F_can_be_had.bindsN fun _ _ _ _ _ _ us hl => match us, hl with | [_, _], _ => rfl, .nil⟩
  have c_marked : Y.Cal P w K mg base CX0 1 "marked" (sp_marked K) [] := ⟨_, fd_marked, ["prices", "deal"], [], ok_marked T F_marked , He.glo_ok X G (c.fact 73 (f := .glo "marked") rfl), F_marked.kp, F_marked.bindsN fun _ _ _ _ _ _ us hl => match us, hl with | [_, _], _ => rfl, .nil⟩
  have c_bill : Y.Cal P w K mg base CX0 3 "bill" (sp_bill K) [] := ⟨_, fd_bill, ["book", "stay"], [], ok_bill T F_bill c_nights_of c_Book_tells_of c_marked, He.glo_ok X G (c.fact 74 (f := .glo "bill") rfl), F_bill.kp, F_bill.bindsN fun _ _ _ _ _ _ us hl => match us, hl with | [_, _], _ => rfl, .nil⟩
  have c_coins_of : Y.Cal P w K mg base CX0 4 "coins_of" (sp_coins_of K) [] := ⟨_, fd_coins_of, ["book", "stay"], [], ok_coins_of T F_coins_of c_can_be_had c_bill, He.glo_ok X G (c.fact 75 (f := .glo "coins_of") rfl), F_coins_of.kp, F_coins_of.bindsN fun _ _ _ _ _ _ us hl => match us, hl with | [_, _], _ => rfl, .nil⟩
  have c_parts_from : Y.Cal P w K mg base CX0 5 "parts_from" (sp_parts_from K) [] := ⟨_, fd_parts_from, ["books", "stay", "day"], [], ok_parts_from T F_parts_from c_coins_of, He.glo_ok X G (c.fact 76 (f := .glo "parts_from") rfl), F_parts_from.kp, F_parts_from.bindsN fun _ _ _ _ _ _ us hl => match us, hl with | [_, _, _], _ => rfl, .nil⟩
  have c_ways : Y.Cal P w K mg base CX0 6 "ways" (sp_ways K) [] := ⟨_, fd_ways, ["books", "stay"], [], ok_ways T F_ways c_parts_from, He.glo_ok X G (c.fact 77 (f := .glo "ways") rfl), F_ways.kp, F_ways.bindsN fun _ _ _ _ _ _ us hl => match us, hl with | [_, _], _ => rfl, .nil⟩
  have c_paper_by : Y.Cal P w K mg base CX0 1 "paper_by" (sp_paper_by K) [] := ⟨_, fd_paper_by, ["found", "stay"], [], ok_paper_by T F_paper_by , He.glo_ok X G (c.fact 78 (f := .glo "paper_by") rfl), F_paper_by.kp, F_paper_by.bindsN fun _ _ _ _ _ _ us hl => match us, hl with | [_, _], _ => rfl, .nil⟩
  have c_cut_by : Y.Cal P w K mg base CX0 1 "cut_by" (sp_cut_by K) [] := ⟨_, fd_cut_by, ["found", "go"], [], ok_cut_by T F_cut_by , He.glo_ok X G (c.fact 79 (f := .glo "cut_by") rfl), F_cut_by.kp, F_cut_by.bindsN fun _ _ _ _ _ _ us hl => match us, hl with | [_, _], _ => rfl, .nil⟩
  have c_best : Y.Cal P w K mg base CX0 7 "best" (sp_best K) [] := ⟨_, fd_best, ["books", "stay"], [], ok_best T F_best c_ways c_paper_by c_cut_by, He.glo_ok X G (c.fact 80 (f := .glo "best") rfl), F_best.kp, F_best.bindsN fun _ _ _ _ _ _ us hl => match us, hl with | [_, _], _ => rfl, .nil⟩
  have c_priced_parts : Y.Cal P w K mg base CX0 5 "priced_parts" (sp_priced_parts K) [] := ⟨_, fd_priced_parts, ["books", "stay"], [], ok_priced_parts T F_priced_parts c_coins_of, He.glo_ok X G (c.fact 81 (f := .glo "priced_parts") rfl), F_priced_parts.kp, F_priced_parts.bindsN fun _ _ _ _ _ _ us hl => match us, hl with | [_, _], _ => rfl, .nil⟩
  have c_is_shut : Y.Cal P w K mg base CX0 6 "is_shut" (sp_is_shut K) [] := ⟨_, fd_is_shut, ["books", "stay", "thing"], [], ok_is_shut T F_is_shut c_is_whole c_priced_parts, He.glo_ok X G (c.fact 82 (f := .glo "is_shut") rfl), F_is_shut.kp, F_is_shut.bindsN fun _ _ _ _ _ _ us hl => match us, hl with | [_, _, _], _ => rfl, .nil⟩
  have c_is_stay : Y.Cal P w K mg base CX0 4 "is_stay" (sp_is_stay K) [] := ⟨_, fd_is_stay, ["thing"], [], ok_is_stay T F_is_stay c_is_two_days, He.glo_ok X G (c.fact 83 (f := .glo "is_stay") rfl), F_is_stay.kp, F_is_stay.bindsN fun _ _ _ _ _ _ us hl => match us, hl with | [_], _ => rfl, .nil⟩
  have c_is_part : Y.Cal P w K mg base CX0 5 "is_part" (sp_is_part K) [] := ⟨_, fd_is_part, ["books", "stay", "thing"], [], ok_is_part T F_is_part c_is_stay c_is_whole c_can_be_had, He.glo_ok X G (c.fact 84 (f := .glo "is_part") rfl), F_is_part.kp, F_is_part.bindsN fun _ _ _ _ _ _ us hl => match us, hl with | [_, _, _], _ => rfl, .nil⟩
  have c_is_cut : Y.Cal P w K mg base CX0 6 "is_cut" (sp_is_cut K) [] := ⟨_, fd_is_cut, ["books", "stay", "thing"], [], ok_is_cut T F_is_cut c_is_part, He.glo_ok X G (c.fact 85 (f := .glo "is_cut") rfl), F_is_cut.kp, F_is_cut.bindsN fun _ _ _ _ _ _ us hl => match us, hl with | [_, _, _], _ => rfl, .nil⟩
  have c_cost : Y.Cal P w K mg base CX0 5 "cost" (sp_cost K) [] := ⟨_, fd_cost, ["book", "stay"], [], ok_cost T F_cost c_coins_of, He.glo_ok X G (c.fact 86 (f := .glo "cost") rfl), F_cost.kp, F_cost.bindsN fun _ _ _ _ _ _ us hl => match us, hl with | [_, _], _ => rfl, .nil⟩
  have c_cost_of : Y.Cal P w K mg base CX0 6 "cost_of" (sp_cost_of K) [] := ⟨_, fd_cost_of, ["books", "part"], [], ok_cost_of T F_cost_of c_cost, He.glo_ok X G (c.fact 87 (f := .glo "cost_of") rfl), F_cost_of.kp, F_cost_of.bindsN fun _ _ _ _ _ _ us hl => match us, hl with | [_, _], _ => rfl, .nil⟩
  have c_is_paper : Y.Cal P w K mg base CX0 6 "is_paper" (sp_is_paper K) [] := ⟨_, fd_is_paper, ["books", "stay", "coins", "thing"], [], ok_is_paper T F_is_paper c_is_whole c_priced_parts, He.glo_ok X G (c.fact 88 (f := .glo "is_paper") rfl), F_is_paper.kp, F_is_paper.bindsN fun _ _ _ _ _ _ us hl => match us, hl with | [_, _, _, _], _ => rfl, .nil⟩
  have c_lets_by : Y.Cal P w K mg base CX0 7 "lets_by" (sp_lets_by K) [] := ⟨_, fd_lets_by, ["books", "stay", "thing"], [], ok_lets_by T F_lets_by c_is_shut c_is_whole c_is_cut c_cost_of c_is_paper, He.glo_ok X G (c.fact 89 (f := .glo "lets_by") rfl), F_lets_by.kp, F_lets_by.bindsN fun _ _ _ _ _ _ us hl => match us, hl with | [_, _, _], _ => rfl, .nil⟩
  have c_bars : Y.Cal P w K mg base CX0 3 "bars" (sp_bars K) [] := ⟨_, fd_bars, ["book", "stay"], [], ok_bars T F_bars c_nights_of c_Book_tells_of, He.glo_ok X G (c.fact 90 (f := .glo "bars") rfl), F_bars.kp, F_bars.bindsN fun _ _ _ _ _ _ us hl => match us, hl with | [_, _], _ => rfl, .nil⟩
  have c_laid : Y.Cal P w K mg base CX0 8 "laid" (sp_laid K) [] := ⟨_, fd_laid, ["elder", "newer"], [], ok_laid T F_laid c_Book_rules c_Book, He.glo_ok X G (c.fact 91 (f := .glo "laid") rfl), F_laid.kp, F_laid.bindsN fun _ _ _ _ _ _ us hl => match us, hl with | [_, _], _ => rfl, .nil⟩
  exact ok_law T F_law c_Ltape c_Ldraw c_Lbooks c_show_book c_read_book c_Book_rules c_Lstay c_best c_lets_by c_bars c_laid
end Y
theorem PySem.Challenge.cw_stayprice_k93_whole_from_text_to_paper_holds : PySem.Challenge.rw_stayprice_k93_whole_from_text_to_paper.Holds :=
  Y.early Y.sp_law (fun K m0 H a ns hl _ hS => by
    obtain ⟨m1, x0⟩ := Bool.and_eq_true_iff.mp m0
    exact ⟨_, rfl, m1, x0, a, ns, rfl, hS, hl, fun _ => rfl⟩) Y.facts
