import PyProof.Rows.All
import Wide.All
import OpenK.AllK
import Wide.FinOn
import HandS.Head0
import HandS.Head1
import HandS.Head2
import HandS.HeadEnd
import HandS.HeadHook1
import HandS.HeadHook2
import HandS.HeadHook3
import HandS.HeadHook4
import HandS.ExcInit
import KE.KTryMore
import OpenK.KCls
import HandS.Words
import KE.KStateDown
import HandS.ForMost
import HandS.ForExc
import HandS.Wide
import HandS.Conv
import HandS.IsInst
import HandS.Defaults
import HandS.Codes
import HandS.Flow
import PyProof.ReprRoads
import PyProof.EqLayable
import HandS.SortRule
import HandS.Walk
import HandS.SetFor
import HandS.SetKeys
import HandS.Dict
import HandS.ExcOwn
import HandS.TryOnly
import HandS.WordsExc
import KE.KExcIs
import KE.KIsAll
import HandS.SortInts
import HandS.Zip
import PySem.Challenge.RW_stayprice_k67_unlike_stays_told
set_option Elab.async false
set_option linter.all false
set_option maxRecDepth 100000
set_option maxHeartbeats 4000000
/-! YH: what is told of the classes at the head. -/
namespace Y
open PySem PySem.Spec PyProof.Rows L2
def ruleCls : List Str := ["Price", "Come", "Go", "Least", "Most", "Deal", "Fee"]
def wordsL : List Str := ["price", "come", "go", "least", "most", "deal", "fee"]
def isiB (K : PySem.W.Frag) (x y : Str) (b : Bool) : Bool := decide (PySem.W.kitOne K (.ref (He.ga K x)) (.ref (He.ga K y)) = some b)
def tyB (K : PySem.W.Frag) (C : Addr) : Bool := He.eqO (PySem.W.findIn K (.ref C) "__class__") (some (some (.builtin "object.__class__"))) && (He.eqO (PySem.W.specialIn K (.builtin "object.__class__") "__get__") (some (some (.builtin "getset_descriptor.__get__"))) && (decide (PySem.W.takesIn K (.builtin "object.__class__") = some true) && decide (PySem.W.mroIn K C (.type "object") = some true)))
/-- what the rules' classes are, told of K -/
def exRules (K : PySem.W.Frag) : Bool := (ruleCls.all fun x => (He.Fa.cls x).ok K && ((["first", "last", "worth"] : List Str).all (fun f => (He.Fa.noat x f).ok K) && (tyB K (He.ga K x) && isiB K x "Rule" true))) &&
  ((ruleCls.all fun x => ruleCls.all fun y => isiB K x y (decide (x = y))) && He.tupB K "WORDS" (wordsL.map He.Dv.str))
def exBook (K : PySem.W.Frag) : Bool := (He.Fa.cls "Book").ok K && ((["kept", "newest"] : List Str).all (fun f => (He.Fa.noat "Book" f).ok K) && (tyB K (He.ga K "Book") && isiB K "Book" "Book" true))
/-! errors -/
/-- the class x stands under y -/
def subE (x y : Str) : Bool := decide (x = y) || decide (y = "StayError")
/-- what is told of any error's class -/
def errB (K : PySem.W.Frag) (x : Str) : Bool := decide (PySem.W.findIn K (.ref (He.ga K x)) "__getattribute__" = some (some (.builtin "BaseException.__getattribute__"))) && (decide (PySem.W.findIn K (.ref (He.ga K x)) "__getattr__" = some none) &&
  (decide (PySem.W.subIn K (.ref (He.ga K x)) (.type "BaseException") = some true) && (PySem.W.hasDictIn K (He.ga K x) && (tyB K (He.ga K x) && (decide (PySem.W.typeIn K (.ref (He.ga K x)) = some (.type "type")) && (PySem.W.keepIn K (.ref (He.ga K x)) && PySem.W.isClsIn K (He.ga K x)))))))
/-- the errors L, and StayError: which stands under which -/
def exErrs (L : List Str) (K : PySem.W.Frag) : Bool := L.all fun x => errB K x && (decide (PySem.W.kitOne K (.ref (He.ga K x)) (.type "ValueError") = some true) &&
  ((("StayError" : Str) :: L).all fun y => (He.Fa.exm x y (subE x y)).ok K && isiB K x y (subE x y)))
/-- an error's class without own __init__ -/
def exBare (x : Str) (K : PySem.W.Frag) : Bool := PySem.W.excIn K (He.ga K x) He.veBase "ValueError.__new__" && errB K x
def oexB (K : PySem.W.Frag) (C : Addr) : Bool := match K.lookup C with
  | some ⟨.type "type", _, .cls cd, sl⟩ => (match cd.mro, sl.toList with
    | .ref C' :: bm, [_, _, _, _, some (.builtin n), _] => C' == C && (n == "ValueError.__new__" && (!cd.hasDel && (cd.hasDict && PySem.HandSPX.refsVE bm)))
    | _, _ => false)
  | _ => false
/-- StayError.__init__ is ValueError's -/
def exStay (K : PySem.W.Frag) : Bool := PySem.W.readsIn K (He.ga K "StayError") (.type "type") && (decide (PySem.W.specialIn K (.ref (He.ga K "StayError")) "__getattribute__" = some (some (.builtin "type.__getattribute__"))) &&
  (match PySem.W.findCls K (.ref (He.ga K "StayError")) (.type "type") "__init__" with
  | some (.val (.builtin n)) => decide (n = "ValueError.__init__")
  | _ => false))
/-- an error's class whose __init__ calls StayError's and writes the field f -/
def exInit (x f : Str) (K : PySem.W.Frag) : Bool := exStay K && (oexB K (He.ga K x) && (decide (PySem.W.findIn K (.ref (He.ga K x)) "__setattr__" = some (some (.builtin "object.__setattr__"))) && (decide (PySem.W.findIn K (.ref (He.ga K x)) f = some none) && errB K x)))
def exHind (K : PySem.W.Frag) : Bool := He.tupB K "HINDERING" (((["price", "come", "go", "least", "most"] : List Str)).map He.Dv.str)
/-! the head's hook: what the names reach, and the table of statics (a class's attributes are looked up there) -/
abbrev AlY : Type := He.AlD × Bool
def asY (g : Addr → Option Obj) (n : Nat) : List Addr := He.asD g n ++ [cStatics]
def obsY (n : Nat) (fa : List He.Fa) (fn : List He.DefD) (ex : PySem.W.Frag → Bool) (g : Addr → Option Obj) : AlY := (He.obsD fa fn (He.frG g (asY g n)), ex (He.frG g (asY g n)))
def hookY (n : Nat) (fa : List He.Fa) (fn : List He.DefD) (ex : PySem.W.Frag → Bool) : PySem.W.Hook where
  α := AlY
  obs := fun s => obsY n fa fn ex s.heap.get?
  val := fun _ => (He.valD fn, true)
  says := fun _ h => ∃ K : PySem.W.Frag, K.In h ∧ He.SaysD fa fn K ∧ ex K = true
  of := fun _ _ e => ⟨_, He.frG_in, congrArg (fun z : AlY => z.1) e, congrArg (fun z : AlY => z.2) e⟩
  keeps := fun _ _ _ ⟨K, hK, c⟩ k => ⟨K, PySem.W.Frag.In.keeps hK k, c⟩
theorem obsY_eq {n : Nat} {fa : List He.Fa} {fn : List He.DefD} {ex : PySem.W.Frag → Bool} {g : Addr → Option Obj} {s : Shared} (h : ∀ a, g a = s.heap.get? a) : obsY n fa fn ex g = (hookY n fa fn ex).obs s := by
  have e : g = s.heap.get? := funext h
  rw [e] <;> rfl
end Y
namespace YHd
open PySem PySem.Spec PyProof.Rows L2 Y
def top (i : Nat) : Stmt := PySem.Challenge.pw_stayprice_k67_unlike_stays_told.main.body.getD i (.Pass ⟨0, 0, 0, 0⟩)
abbrev s_Lbegin : Stmt := top 45
abbrev s_Ltake : Stmt := top 46
abbrev s_Lday : Stmt := top 51
abbrev s_Llong : Stmt := top 55
abbrev s_Lcoins : Stmt := top 47
abbrev s_Lworth : Stmt := top 48
abbrev s_Lrule : Stmt := top 49
abbrev s_Lfew : Stmt := top 52
abbrev s_Lturned : Stmt := top 53
abbrev s_Ltwo : Stmt := top 56
abbrev s_Lcomes : Stmt := top 57
abbrev s_Ltells : Stmt := top 50
abbrev s_Lprice : Stmt := top 54
abbrev s_Ldue : Stmt := top 58
abbrev s_is_whole : Stmt := top 3
abbrev s_is_day : Stmt := top 4
abbrev s_is_two_days : Stmt := top 5
abbrev s_is_stretch : Stmt := top 6
abbrev s_Rule_init : Stmt := inClass (top 29) 0
abbrev s_made : Stmt := top 37
abbrev s_is_coins : Stmt := top 27
abbrev s_Price_fits : Stmt := inClass (top 30) 1
abbrev s_Come_fits : Stmt := inClass (top 31) 1
abbrev s_Go_fits : Stmt := inClass (top 32) 1
abbrev s_is_nights : Stmt := top 28
abbrev s_Least_fits : Stmt := inClass (top 33) 1
abbrev s_Most_fits : Stmt := inClass (top 34) 1
abbrev s_Deal_fits : Stmt := inClass (top 35) 1
abbrev s_Fee_fits : Stmt := inClass (top 36) 1
abbrev s_rule_of : Stmt := top 38
abbrev s_Price_word : Stmt := inClass (top 30) 0
abbrev s_Come_word : Stmt := inClass (top 31) 0
abbrev s_Go_word : Stmt := inClass (top 32) 0
abbrev s_Least_word : Stmt := inClass (top 33) 0
abbrev s_Most_word : Stmt := inClass (top 34) 0
abbrev s_Deal_word : Stmt := inClass (top 35) 0
abbrev s_Fee_word : Stmt := inClass (top 36) 0
abbrev s_Book_init : Stmt := inClass (top 42) 0
abbrev s_Rule_told : Stmt := inClass (top 29) 4
abbrev s_Book_rules : Stmt := inClass (top 42) 1
abbrev s_backs_of : Stmt := top 21
abbrev s_comes_of : Stmt := top 22
abbrev s_Rule_tells : Stmt := inClass (top 29) 3
abbrev s_usual : Stmt := top 39
abbrev s_Book_tells_of : Stmt := inClass (top 42) 2
abbrev s_nights_of : Stmt := top 7
abbrev s_can_be_had : Stmt := top 17
abbrev s_marked : Stmt := top 14
abbrev s_bill : Stmt := top 15
abbrev s_coins_of : Stmt := top 18
abbrev s_apart : Stmt := top 23
abbrev s_Lwhole : Stmt := top 59
abbrev s_law : Stmt := top 60
/-! the head: facts by names, the run of the top -/
def d_Lbegin : He.DefD := ⟨("_law_begin", none), "_law_begin", "_law_begin", defArgs s_Lbegin, defBody s_Lbegin, defScope s_Lbegin, [], []⟩
def d_Ltake : He.DefD := ⟨("_law_take", none), "_law_take", "_law_take", defArgs s_Ltake, defBody s_Ltake, defScope s_Ltake, [], []⟩
def d_Lday : He.DefD := ⟨("_law_day", none), "_law_day", "_law_day", defArgs s_Lday, defBody s_Lday, defScope s_Lday, [], []⟩
def d_Llong : He.DefD := ⟨("_law_long", none), "_law_long", "_law_long", defArgs s_Llong, defBody s_Llong, defScope s_Llong, [], []⟩
def d_Lcoins : He.DefD := ⟨("_law_coins", none), "_law_coins", "_law_coins", defArgs s_Lcoins, defBody s_Lcoins, defScope s_Lcoins, [], []⟩
def d_Lworth : He.DefD := ⟨("_law_worth", none), "_law_worth", "_law_worth", defArgs s_Lworth, defBody s_Lworth, defScope s_Lworth, [], []⟩
def d_Lrule : He.DefD := ⟨("_law_rule", none), "_law_rule", "_law_rule", defArgs s_Lrule, defBody s_Lrule, defScope s_Lrule, [], []⟩
def d_Lfew : He.DefD := ⟨("_law_few", none), "_law_few", "_law_few", defArgs s_Lfew, defBody s_Lfew, defScope s_Lfew, [], []⟩
def d_Lturned : He.DefD := ⟨("_law_turned", none), "_law_turned", "_law_turned", defArgs s_Lturned, defBody s_Lturned, defScope s_Lturned, [], []⟩
def d_Ltwo : He.DefD := ⟨("_law_two", none), "_law_two", "_law_two", defArgs s_Ltwo, defBody s_Ltwo, defScope s_Ltwo, [], []⟩
def d_Lcomes : He.DefD := ⟨("_law_comes", none), "_law_comes", "_law_comes", defArgs s_Lcomes, defBody s_Lcomes, defScope s_Lcomes, [], []⟩
def d_Ltells : He.DefD := ⟨("_law_tells", none), "_law_tells", "_law_tells", defArgs s_Ltells, defBody s_Ltells, defScope s_Ltells, [], []⟩
def d_Lprice : He.DefD := ⟨("_law_price", none), "_law_price", "_law_price", defArgs s_Lprice, defBody s_Lprice, defScope s_Lprice, [], []⟩
def d_Ldue : He.DefD := ⟨("_law_due", none), "_law_due", "_law_due", defArgs s_Ldue, defBody s_Ldue, defScope s_Ldue, [], []⟩
def d_is_whole : He.DefD := ⟨("is_whole", none), "is_whole", "is_whole", defArgs s_is_whole, defBody s_is_whole, defScope s_is_whole, [], []⟩
def d_is_day : He.DefD := ⟨("is_day", none), "is_day", "is_day", defArgs s_is_day, defBody s_is_day, defScope s_is_day, [], []⟩
def d_is_two_days : He.DefD := ⟨("is_two_days", none), "is_two_days", "is_two_days", defArgs s_is_two_days, defBody s_is_two_days, defScope s_is_two_days, [], []⟩
def d_is_stretch : He.DefD := ⟨("is_stretch", none), "is_stretch", "is_stretch", defArgs s_is_stretch, defBody s_is_stretch, defScope s_is_stretch, [], []⟩
def d_Price_init : He.DefD := ⟨("Price", some "__init__"), "__init__", "Rule.__init__", defArgs s_Rule_init, defBody s_Rule_init, defScope s_Rule_init, [], []⟩
def d_Come_init : He.DefD := ⟨("Come", some "__init__"), "__init__", "Rule.__init__", defArgs s_Rule_init, defBody s_Rule_init, defScope s_Rule_init, [], []⟩
def d_Go_init : He.DefD := ⟨("Go", some "__init__"), "__init__", "Rule.__init__", defArgs s_Rule_init, defBody s_Rule_init, defScope s_Rule_init, [], []⟩
def d_Least_init : He.DefD := ⟨("Least", some "__init__"), "__init__", "Rule.__init__", defArgs s_Rule_init, defBody s_Rule_init, defScope s_Rule_init, [], []⟩
def d_Most_init : He.DefD := ⟨("Most", some "__init__"), "__init__", "Rule.__init__", defArgs s_Rule_init, defBody s_Rule_init, defScope s_Rule_init, [], []⟩
def d_Deal_init : He.DefD := ⟨("Deal", some "__init__"), "__init__", "Rule.__init__", defArgs s_Rule_init, defBody s_Rule_init, defScope s_Rule_init, [], []⟩
def d_Fee_init : He.DefD := ⟨("Fee", some "__init__"), "__init__", "Rule.__init__", defArgs s_Rule_init, defBody s_Rule_init, defScope s_Rule_init, [], []⟩
def d_made : He.DefD := ⟨("made", none), "made", "made", defArgs s_made, defBody s_made, defScope s_made, [], []⟩
def d_is_coins : He.DefD := ⟨("is_coins", none), "is_coins", "is_coins", defArgs s_is_coins, defBody s_is_coins, defScope s_is_coins, [], []⟩
def d_Price_fits : He.DefD := ⟨("Price", some "fits"), "fits", "Price.fits", defArgs s_Price_fits, defBody s_Price_fits, defScope s_Price_fits, [], []⟩
def d_Come_fits : He.DefD := ⟨("Come", some "fits"), "fits", "Come.fits", defArgs s_Come_fits, defBody s_Come_fits, defScope s_Come_fits, [], []⟩
def d_Go_fits : He.DefD := ⟨("Go", some "fits"), "fits", "Go.fits", defArgs s_Go_fits, defBody s_Go_fits, defScope s_Go_fits, [], []⟩
def d_is_nights : He.DefD := ⟨("is_nights", none), "is_nights", "is_nights", defArgs s_is_nights, defBody s_is_nights, defScope s_is_nights, [], []⟩
def d_Least_fits : He.DefD := ⟨("Least", some "fits"), "fits", "Least.fits", defArgs s_Least_fits, defBody s_Least_fits, defScope s_Least_fits, [], []⟩
def d_Most_fits : He.DefD := ⟨("Most", some "fits"), "fits", "Most.fits", defArgs s_Most_fits, defBody s_Most_fits, defScope s_Most_fits, [], []⟩
def d_Deal_fits : He.DefD := ⟨("Deal", some "fits"), "fits", "Deal.fits", defArgs s_Deal_fits, defBody s_Deal_fits, defScope s_Deal_fits, [], []⟩
def d_Fee_fits : He.DefD := ⟨("Fee", some "fits"), "fits", "Fee.fits", defArgs s_Fee_fits, defBody s_Fee_fits, defScope s_Fee_fits, [], []⟩
def d_rule_of : He.DefD := ⟨("rule_of", none), "rule_of", "rule_of", defArgs s_rule_of, defBody s_rule_of, defScope s_rule_of, [], []⟩
def d_Price_word : He.DefD := ⟨("Price", some "word"), "word", "Price.word", defArgs s_Price_word, defBody s_Price_word, defScope s_Price_word, [], []⟩
def d_Come_word : He.DefD := ⟨("Come", some "word"), "word", "Come.word", defArgs s_Come_word, defBody s_Come_word, defScope s_Come_word, [], []⟩
def d_Go_word : He.DefD := ⟨("Go", some "word"), "word", "Go.word", defArgs s_Go_word, defBody s_Go_word, defScope s_Go_word, [], []⟩
def d_Least_word : He.DefD := ⟨("Least", some "word"), "word", "Least.word", defArgs s_Least_word, defBody s_Least_word, defScope s_Least_word, [], []⟩
def d_Most_word : He.DefD := ⟨("Most", some "word"), "word", "Most.word", defArgs s_Most_word, defBody s_Most_word, defScope s_Most_word, [], []⟩
def d_Deal_word : He.DefD := ⟨("Deal", some "word"), "word", "Deal.word", defArgs s_Deal_word, defBody s_Deal_word, defScope s_Deal_word, [], []⟩
def d_Fee_word : He.DefD := ⟨("Fee", some "word"), "word", "Fee.word", defArgs s_Fee_word, defBody s_Fee_word, defScope s_Fee_word, [], []⟩
def d_Book_init : He.DefD := ⟨("Book", some "__init__"), "__init__", "Book.__init__", defArgs s_Book_init, defBody s_Book_init, defScope s_Book_init, [.non], []⟩
def d_Price_told : He.DefD := ⟨("Price", some "told"), "told", "Rule.told", defArgs s_Rule_told, defBody s_Rule_told, defScope s_Rule_told, [], []⟩
def d_Come_told : He.DefD := ⟨("Come", some "told"), "told", "Rule.told", defArgs s_Rule_told, defBody s_Rule_told, defScope s_Rule_told, [], []⟩
def d_Go_told : He.DefD := ⟨("Go", some "told"), "told", "Rule.told", defArgs s_Rule_told, defBody s_Rule_told, defScope s_Rule_told, [], []⟩
def d_Least_told : He.DefD := ⟨("Least", some "told"), "told", "Rule.told", defArgs s_Rule_told, defBody s_Rule_told, defScope s_Rule_told, [], []⟩
def d_Most_told : He.DefD := ⟨("Most", some "told"), "told", "Rule.told", defArgs s_Rule_told, defBody s_Rule_told, defScope s_Rule_told, [], []⟩
def d_Deal_told : He.DefD := ⟨("Deal", some "told"), "told", "Rule.told", defArgs s_Rule_told, defBody s_Rule_told, defScope s_Rule_told, [], []⟩
def d_Fee_told : He.DefD := ⟨("Fee", some "told"), "told", "Rule.told", defArgs s_Rule_told, defBody s_Rule_told, defScope s_Rule_told, [], []⟩
def d_Book_rules : He.DefD := ⟨("Book", some "rules"), "rules", "Book.rules", defArgs s_Book_rules, defBody s_Book_rules, defScope s_Book_rules, [], []⟩
def d_backs_of : He.DefD := ⟨("backs_of", none), "backs_of", "backs_of", defArgs s_backs_of, defBody s_backs_of, defScope s_backs_of, [], []⟩
def d_comes_of : He.DefD := ⟨("comes_of", none), "comes_of", "comes_of", defArgs s_comes_of, defBody s_comes_of, defScope s_comes_of, [], []⟩
def d_Price_tells : He.DefD := ⟨("Price", some "tells"), "tells", "Rule.tells", defArgs s_Rule_tells, defBody s_Rule_tells, defScope s_Rule_tells, [], []⟩
def d_Come_tells : He.DefD := ⟨("Come", some "tells"), "tells", "Rule.tells", defArgs s_Rule_tells, defBody s_Rule_tells, defScope s_Rule_tells, [], []⟩
def d_Go_tells : He.DefD := ⟨("Go", some "tells"), "tells", "Rule.tells", defArgs s_Rule_tells, defBody s_Rule_tells, defScope s_Rule_tells, [], []⟩
def d_Least_tells : He.DefD := ⟨("Least", some "tells"), "tells", "Rule.tells", defArgs s_Rule_tells, defBody s_Rule_tells, defScope s_Rule_tells, [], []⟩
def d_Most_tells : He.DefD := ⟨("Most", some "tells"), "tells", "Rule.tells", defArgs s_Rule_tells, defBody s_Rule_tells, defScope s_Rule_tells, [], []⟩
def d_Deal_tells : He.DefD := ⟨("Deal", some "tells"), "tells", "Rule.tells", defArgs s_Rule_tells, defBody s_Rule_tells, defScope s_Rule_tells, [], []⟩
def d_Fee_tells : He.DefD := ⟨("Fee", some "tells"), "tells", "Rule.tells", defArgs s_Rule_tells, defBody s_Rule_tells, defScope s_Rule_tells, [], []⟩
def d_usual : He.DefD := ⟨("usual", none), "usual", "usual", defArgs s_usual, defBody s_usual, defScope s_usual, [], []⟩
def d_Book_tells_of : He.DefD := ⟨("Book", some "tells_of"), "tells_of", "Book.tells_of", defArgs s_Book_tells_of, defBody s_Book_tells_of, defScope s_Book_tells_of, [], []⟩
def d_nights_of : He.DefD := ⟨("nights_of", none), "nights_of", "nights_of", defArgs s_nights_of, defBody s_nights_of, defScope s_nights_of, [], []⟩
def d_can_be_had : He.DefD := ⟨("can_be_had", none), "can_be_had", "can_be_had", defArgs s_can_be_had, defBody s_can_be_had, defScope s_can_be_had, [], []⟩
def d_marked : He.DefD := ⟨("marked", none), "marked", "marked", defArgs s_marked, defBody s_marked, defScope s_marked, [], []⟩
def d_bill : He.DefD := ⟨("bill", none), "bill", "bill", defArgs s_bill, defBody s_bill, defScope s_bill, [], []⟩
def d_coins_of : He.DefD := ⟨("coins_of", none), "coins_of", "coins_of", defArgs s_coins_of, defBody s_coins_of, defScope s_coins_of, [], []⟩
def d_apart : He.DefD := ⟨("apart", none), "apart", "apart", defArgs s_apart, defBody s_apart, defScope s_apart, [], []⟩
def d_Lwhole : He.DefD := ⟨("_law_whole", none), "_law_whole", "_law_whole", defArgs s_Lwhole, defBody s_Lwhole, defScope s_Lwhole, [], []⟩
def d_law : He.DefD := ⟨("law", none), "law", "law", defArgs s_law, defBody s_law, defScope s_law, [], []⟩
def fn : List He.DefD := d_Lbegin :: d_Ltake :: d_Lday :: d_Llong :: d_Lcoins :: d_Lworth :: d_Lrule :: d_Lfew :: d_Lturned :: d_Ltwo :: d_Lcomes :: d_Ltells :: d_Lprice :: d_Ldue :: d_is_whole :: d_is_day :: d_is_two_days :: d_is_stretch :: d_Price_init :: d_Come_init :: d_Go_init :: d_Least_init :: d_Most_init :: d_Deal_init :: d_Fee_init :: d_made :: d_is_coins :: d_Price_fits :: d_Come_fits :: d_Go_fits :: d_is_nights :: d_Least_fits :: d_Most_fits :: d_Deal_fits :: d_Fee_fits :: d_rule_of :: d_Price_word :: d_Come_word :: d_Go_word :: d_Least_word :: d_Most_word :: d_Deal_word :: d_Fee_word :: d_Book_init :: d_Price_told :: d_Come_told :: d_Go_told :: d_Least_told :: d_Most_told :: d_Deal_told :: d_Fee_told :: d_Book_rules :: d_backs_of :: d_comes_of :: d_Price_tells :: d_Come_tells :: d_Go_tells :: d_Least_tells :: d_Most_tells :: d_Deal_tells :: d_Fee_tells :: d_usual :: d_Book_tells_of :: d_nights_of :: d_can_be_had :: d_marked :: d_bill :: d_coins_of :: d_apart :: d_Lwhole :: d_law :: []
def fa : List He.Fa := .glo "_law_begin" :: .glo "_law_take" :: .glo "_law_day" :: .glo "_law_long" :: .glo "_law_coins" :: .glo "_law_worth" :: .glo "_law_rule" :: .glo "_law_few" :: .glo "_law_turned" :: .glo "_law_two" :: .glo "_law_comes" :: .glo "_law_tells" :: .glo "_law_price" :: .glo "_law_due" :: .glo "is_whole" :: .glo "is_day" :: .glo "is_two_days" :: .glo "is_stretch" :: .mkr "Price" :: .mkr "Come" :: .mkr "Go" :: .mkr "Least" :: .mkr "Most" :: .mkr "Deal" :: .mkr "Fee" :: .glo "made" :: .glo "is_coins" :: .cls "Price" :: .meth "Price" "fits" :: .cls "Come" :: .meth "Come" "fits" :: .cls "Go" :: .meth "Go" "fits" :: .glo "is_nights" :: .cls "Least" :: .meth "Least" "fits" :: .cls "Most" :: .meth "Most" "fits" :: .cls "Deal" :: .meth "Deal" "fits" :: .cls "Fee" :: .meth "Fee" "fits" :: .glo "rule_of" :: .meth "Price" "word" :: .meth "Come" "word" :: .meth "Go" "word" :: .meth "Least" "word" :: .meth "Most" "word" :: .meth "Deal" "word" :: .meth "Fee" "word" :: .mkr "Book" :: .meth "Price" "told" :: .meth "Come" "told" :: .meth "Go" "told" :: .meth "Least" "told" :: .meth "Most" "told" :: .meth "Deal" "told" :: .meth "Fee" "told" :: .cls "Book" :: .meth "Book" "rules" :: .glo "backs_of" :: .glo "comes_of" :: .meth "Price" "tells" :: .meth "Come" "tells" :: .meth "Go" "tells" :: .meth "Least" "tells" :: .meth "Most" "tells" :: .meth "Deal" "tells" :: .meth "Fee" "tells" :: .glo "usual" :: .meth "Book" "tells_of" :: .glo "nights_of" :: .glo "can_be_had" :: .glo "marked" :: .glo "bill" :: .glo "coins_of" :: .glo "apart" :: .glo "_law_whole" :: .glo "law" :: .free "bool" :: .free "enumerate" :: .free "int" :: .free "isinstance" :: .free "len" :: .free "list" :: .free "max" :: .free "min" :: .free "range" :: .free "set" :: .free "sorted" :: .free "str" :: .free "sum" :: .free "tuple" :: .int "LAST_DAY" 1000000 :: .int "MOST_COINS" 1000000000000 :: .int "MOST_NIGHTS" 14 :: .int "MOST_RULES_books" 24 :: .int "MOST_RULES_twos" 12 :: .glo "WORDS" :: .glo "Book" :: .glo "Come" :: .glo "Deal" :: .glo "Fee" :: .glo "Go" :: .glo "Least" :: .glo "Most" :: .glo "Price" :: []
def ex (K : PySem.W.Frag) : Bool := exRules K && exBook K
abbrev AlH := AlY
abbrev R : PySem.W.OpenRow := PySem.W.OpenLaw.row PySem.Challenge.rw_stayprice_k67_unlike_stays_told
abbrev hk : PySem.W.Hook := hookY 5 fa fn ex
def ob (s : PySem.W.SharedT) : AlH := obsY 5 fa fn ex (HandSHeadRun.getT s)
theorem ob_eq (s : PySem.W.SharedT) : ob s = hk.obs s.abs := obsY_eq (HandSHeadRun.getT_eq s)
def loose : List PySem.Str := "LAST_DAY" :: "MOST_NIGHTS" :: "is_whole" :: "is_day" :: "is_two_days" :: "is_stretch" :: "nights_of" :: "StayError" :: "NoRule" :: "NotSold" :: "TooMany" :: "marked" :: "bill" :: "can_be_had" :: "coins_of" :: "MOST_RULES_twos" :: "backs_of" :: "comes_of" :: "apart" :: "WORDS" :: "MOST_COINS" :: "is_coins" :: "is_nights" :: "Rule" :: "Price" :: "Come" :: "Go" :: "Least" :: "Most" :: "Deal" :: "Fee" :: "made" :: "rule_of" :: "usual" :: "MOST_RULES_books" :: "Book" :: "_law_cell_at" :: "_law_begin" :: "_law_take" :: "_law_coins" :: "_law_worth" :: "_law_rule" :: "_law_tells" :: "_law_day" :: "_law_few" :: "_law_turned" :: "_law_price" :: "_law_long" :: "_law_two" :: "_law_comes" :: "_law_due" :: "_law_whole" :: []
theorem run (w : World) : HandSHeadRun.RunEq R (PySem.W.view R.prog [60]) hk ob 6000 loose w := by
  intro os
  kernel_rfl
end YHd
/-! Y0: short names of readings; promises by their number of arguments; heaps that grow; steps of a reading. -/
namespace Y
open PySem PySem.Spec PyProof.Rows L2

/-- nothing stands at p -/
def Fr (H : Hp) (p : Addr) : Prop := H p = none
/-! ### short names for the readings of operators and built-ins -/
abbrev rAdd : R2 := rI0 fun i j => .int (i + j)
abbrev rSub : R2 := rI0 fun i j => .int (i - j)
abbrev rMul : R2 := rI CMul fun i j => .int (i * j)
abbrev rPow : R2 := rI CPow fun i j => .int (i ^ j.toNat)
abbrev rMod : R2 := rI (fun _ j => 0 < j) fun i j => .int (i % j)
abbrev rDivW : R2 := rI CDivW fun i j => .int (i / j)
abbrev rLt : R2 := rI0 fun i j => .bl (decide (i < j))
abbrev rLe : R2 := rI0 fun i j => .bl (decide (i ≤ j))
abbrev rGt : R2 := rI0 fun i j => .bl (decide (j < i))
abbrev rGe : R2 := rI0 fun i j => .bl (decide (j ≤ i))
abbrev rIsN : R2 := fun x y H Q => y = .non ∧ Q (.bl (decide (x = .non))) H
abbrev rNotN : R2 := fun x y H Q => y = .non ∧ Q (.bl (!decide (x = .non))) H
abbrev rAddS : R2 := fun x y H Q => ∃ i j, x = .str i ∧ y = .str j ∧ i.length + j.length ≤ sizeLine ∧ Q (.str (i ++ j)) H
abbrev rNeg : V → Hp → VK → Prop := rU fun i => .int (-i)
abbrev rAbs : List V → Hp → VK → Prop := fun xs H Q => ∃ i, xs = [.int i] ∧ Q (.int (if i < 0 then -i else i)) H
abbrev rMax2 : List V → Hp → VK → Prop := fun xs H Q => ∃ i j, xs = [.int i, .int j] ∧ Q (.int (if j > i then j else i)) H
abbrev rMin2 : List V → Hp → VK → Prop := fun xs H Q => ∃ i j, xs = [.int i, .int j] ∧ Q (.int (if j < i then j else i)) H
abbrev rInt1 : List V → Hp → VK → Prop := fun xs H Q => (∃ i, xs = [.int i] ∧ Q (.int i) H) ∨ ∃ k, xs = [.bl k] ∧ Q (.int (if k then 1 else 0)) H
abbrev rLen (K : PySem.W.Frag) : List V → Hp → VK → Prop := fun xs H Q => ∃ p ys, xs = [.ref p] ∧ (SqL K H p ys ∨ SqT K H p ys) ∧ Q (.int ys.length) H
abbrev rLenS : List V → Hp → VK → Prop := fun xs H Q => ∃ z, xs = [.str z] ∧ z.length ≤ sizeLine ∧ Q (.int z.length) H
abbrev rLenA (K : PySem.W.Frag) : List V → Hp → VK → Prop := fun xs H Q => ∃ x n, xs = [x] ∧ LenV K x H n ∧ Q (.int n) H
abbrev rListOf (K : PySem.W.Frag) : List V → Hp → VK → Prop := fun xs H Q => ∃ p ys, xs = [.ref p] ∧ (SqL K H p ys ∨ SqT K H p ys) ∧ ∀ l, H l = none → Q (.ref l) (upd H l (.lst ys))
abbrev rTupOf (K : PySem.W.Frag) : List V → Hp → VK → Prop := fun xs H Q => ∃ p ys, xs = [.ref p] ∧ ((SqL K H p ys ∧ ∀ l, H l = none → Q (.ref l) (upd H l (.tup ys))) ∨ (SqT K H p ys ∧ Q (.ref p) H))
abbrev rInsert : V → List V → Hp → VK → Prop := fun x vs H Q => ∃ (l : Addr) (xs : List V) (i : Int) (y : V), x = .ref l ∧ vs = [.int i, y] ∧ H l = some (.lst xs) ∧ xs.length < sizeLine ∧ 0 ≤ i ∧ i < 2 ^ 63 ∧ Q .non (upd H l (.lst (xs.take i.toNat ++ [y] ++ xs.drop i.toNat)))
abbrev tTruth (K : PySem.W.Frag) (ta : TE) : TT := fun σ H Q => ta σ H fun x H1 => ∃ k, TruV K x H1 k ∧ Q k H1

/-! ### steps by what the reading is -/
section
variable {K : PySem.W.Frag} {σ : L2.St} {H : Hp} {Q : VK} {x y v : V} {i j : Int} {p : Addr} {xs : List V}
theorem g_c (q : Q v H) : tC v σ H Q := q
theorem g_op {r : R2} {ta tb : TE} (q : ta σ H fun x H1 => tb σ H1 fun y H2 => r x y H2 Q) : tOp r ta tb σ H Q := q
theorem g_un {r : V → Hp → VK → Prop} {ta : TE} (q : ta σ H fun x H1 => r x H1 Q) : tUn r ta σ H Q := q
theorem g_chain {r r' : R2} {ta tb tc : TE} (q : ta σ H fun x H1 => tb σ H1 fun y H2 => r x y H2 fun z H3 => ∃ k, z = .bl k ∧ (if k = true then tc σ H3 fun w' H4 => r' y w' H4 Q else Q (.bl false) H3)) : tChain r r' ta tb tc σ H Q := q
theorem g_tB {t : TE} {Q : Bool → Hp → Prop} (h : t σ H fun x H' => ∃ k, x = .bl k ∧ Q k H') : tB t σ H Q := h
theorem g_and {t u : TT} {Q : Bool → Hp → Prop} (h : t σ H fun c H1 => if c = true then u σ H1 Q else Q false H1) : tAnd t u σ H Q := h
theorem g_or {t u : TT} {Q : Bool → Hp → Prop} (h : t σ H fun c H1 => if c = true then Q true H1 else u σ H1 Q) : tOr t u σ H Q := h
theorem g_not {t : TT} {Q : Bool → Hp → Prop} (h : t σ H fun c H1 => Q (!c) H1) : tNot t σ H Q := h
theorem g_andV {ta tb : TE} (h : ta σ H fun x H1 => ∃ c, x = .bl c ∧ if c = true then tb σ H1 Q else Q (.bl false) H1) : tAndV ta tb σ H Q := h
theorem g_orV {ta tb : TE} (h : ta σ H fun x H1 => ∃ c, x = .bl c ∧ if c = true then Q (.bl true) H1 else tb σ H1 Q) : tOrV ta tb σ H Q := h
theorem g_notV {ta : TE} (h : ta σ H fun x H1 => ∃ c, x = .bl c ∧ Q (.bl (!c)) H1) : tNotV ta σ H Q := h
theorem g_nil {Q : List V → Hp → Prop} (h : Q [] H) : tNil σ H Q := h
theorem g_cons {ta : TE} {tr : TA} {Q : List V → Hp → Prop} (h : ta σ H fun x H1 => tr σ H1 fun xs H2 => Q (x :: xs) H2) : tCons ta tr σ H Q := h
theorem g_tTup {t : TA} (h : t σ H fun xs H1 => xs.length ≤ sizeLine ∧ ∀ p, Fr H1 p → Q (.ref p) (upd H1 p (.tup xs))) : tTup t σ H Q := h
theorem g_tLst {t : TA} (h : t σ H fun xs H1 => xs.length ≤ sizeLine ∧ ∀ p, Fr H1 p → Q (.ref p) (upd H1 p (.lst xs))) : tLst t σ H Q := h
theorem g_cb {r : List V → Hp → VK → Prop} {t : TA} (h : t σ H fun vs H1 => r vs H1 Q) : tCB r t σ H Q := h
theorem g_call {sp : Sp} {dvs : List V} {E : XK} {t : TA} (h : t σ H fun vs H1 => sp (vs ++ dvs) H1 Q E) : tCall sp dvs E t σ H Q := h
theorem g_sl {r : V → Option Int → Option Int → Hp → VK → Prop} {te : TE} {tl th : TO} (h : te σ H fun x H1 => tl σ H1 fun l H2 => th σ H2 fun u H3 => r x l u H3 Q) : tSl r te tl th σ H Q := h
theorem g_wipe {a b : L2.St} {R : Prop} (h : a = b) (r : R) : a = b ∧ R := ⟨h, r⟩
theorem g_np {Q : Option Int → Hp → Prop} (h : Q none H) : tNoPart σ H Q := h
theorem g_pt {t : TE} {Q : Option Int → Hp → Prop} (h : t σ H fun x H1 => ∃ i, x = .int i ∧ Q (some i) H1) : tPart t σ H Q := h
theorem g_exI {R : Int → Prop} (q : R i) : ∃ i', V.int i = .int i' ∧ R i' := ⟨i, rfl, q⟩
theorem g_bm {T : String} {r : V → List V → Hp → VK → Prop} {to : TE} {t : TA} (h : to σ H fun x H1 => tyV K T x H1 ∧ t σ H1 fun xs H2 => r x xs H2 Q) : tBM K T r to t σ H Q := h
theorem g_tyL {R : Prop} (h : SqL K H p xs) (q : R) : tyV K "list" (.ref p) H ∧ R := ⟨.inl ⟨rfl, _, h⟩, q⟩
theorem g_yes {Q : Bool → Hp → Prop} (h : Q true H) : tYes σ H Q := h
theorem g_seq {t u : TS} {D : Ends} (h : t { D with nx := u D } σ H) : tSeq t u D σ H := h
theorem g_asg {te : TE} {g : TG} {D : Ends} (h : te σ H fun x H1 => g x σ H1 D.nx) : tAsg te g D σ H := h
theorem g_name {n : Nat} {Q : L2.St → Hp → Prop} (h : Q (σ.set n (some v)) H) : gName n v σ H Q := h
theorem g_sub {to ti : TE} {t : TSet} {Q : L2.St → Hp → Prop} (h : to σ H fun o H1 => ti σ H1 fun i H2 => t o i v H2 fun H3 => Q σ H3) : gSub to ti t v σ H Q := h
theorem g_gtup {n : Nat} {t : TGs} {Q : L2.St → Hp → Prop} (h : SqT K H p xs) (l : xs.length = n) (q : t xs σ H Q) : gTup K n t (.ref p) σ H Q := ⟨p, xs, rfl, h, l, q⟩
theorem g_gcons {t : TG} {u : TGs} {Q : L2.St → Hp → Prop} (h : t x σ H fun σ' H' => u xs σ' H' Q) : gCons t u (x :: xs) σ H Q := ⟨x, xs, rfl, h⟩
theorem g_gnil {Q : L2.St → Hp → Prop} (h : Q σ H) : gNil [] σ H Q := ⟨rfl, h⟩
theorem g_seqA {te : TE} {g : TG} {u : TS} {D : Ends} (h : tAsg te g { D with nx := u D } σ H) : tSeq (tAsg te g) u D σ H := h
theorem g_seqR {c : TT} {te : TE} {v u : TS} {D : Ends} (h : tIfS c (tRet te) v { D with nx := u D } σ H) : tSeq (tIfS c (tRet te) v) u D σ H := h
theorem g_seqD {te : TE} {u : TS} {D : Ends} (h : tDrop te { D with nx := u D } σ H) : tSeq (tDrop te) u D σ H := h
theorem g_seqF {wi : TI} {g : TG} {b u : TS} {D : Ends} (h : tFor wi g b { D with nx := u D } σ H) : tSeq (tFor wi g b) u D σ H := h
theorem g_seqW {c : TT} {b u : TS} {D : Ends} (h : tWhile c b { D with nx := u D } σ H) : tSeq (tWhile c b) u D σ H := h
theorem g_ifS {c : TT} {t u : TS} {D : Ends} (h : c σ H fun b H1 => if b = true then t D σ H1 else u D σ H1) : tIfS c t u D σ H := h
theorem g_ret {te : TE} {D : Ends} (h : te σ H D.rt) : tRet te D σ H := h
theorem g_drop {te : TE} {D : Ends} (h : te σ H fun _ H1 => D.nx σ H1) : tDrop te D σ H := h
theorem g_next {D : Ends} (h : D.nx σ H) : tNext D σ H := h
theorem g_lstRg {te : L2.St → Hp → (Int → Int → Hp → Prop) → Prop} (h : te σ H fun a b H1 => RgOk a b ∧ ∀ q, Fr H1 q → Q (.ref q) (upd H1 q (.lst (rgV a b)))) : tLstRg te σ H Q := h
theorem g_rg2 {ta tb : TE} {Q : Int → Int → Hp → Prop} (h : ta σ H fun x H1 => tb σ H1 fun y H2 => ∃ i j, x = .int i ∧ y = .int j ∧ Q i j H2) : tRg2 ta tb σ H Q := h
theorem g_rg1 {ta : TE} {Q : Int → Int → Hp → Prop} (h : ta σ H fun x H1 => ∃ n, x = .int n ∧ Q 0 n H1) : tRg1 ta σ H Q := h
theorem g_exII {R : Int → Int → Prop} (q : R i j) : ∃ i' j', V.int i = .int i' ∧ V.int j = .int j' ∧ R i' j' := ⟨i, j, rfl, rfl, q⟩
theorem g_rng1 {ta : TA} {R : It → Hp → Prop} (h : ta σ H fun vs H1 => ∃ j : Int, vs = [.int j] ∧ -(2 ^ 62) ≤ j ∧ j < 2 ^ 62 ∧ R (Itr 0 j.toNat) H1) : iRng1 ta σ H R := h
theorem g_rng1b {R : Int → Prop} (a : -(2 ^ 62) ≤ i) (b : i < 2 ^ 62) (q : R i) : ∃ j : Int, [V.int i] = [.int j] ∧ -(2 ^ 62) ≤ j ∧ j < 2 ^ 62 ∧ R j := ⟨i, rfl, a, b, q⟩
theorem g_rng2 {ta : TA} {R : It → Hp → Prop} (h : ta σ H fun vs H1 => ∃ i j : Int, vs = [.int i, .int j] ∧ (-(2 ^ 62) ≤ i ∧ i < 2 ^ 62 ∧ -(2 ^ 62) ≤ j ∧ j < 2 ^ 62) ∧ R (Itr i (j - i).toNat) H1) : iRng2 ta σ H R := h
theorem g_rng2b {R : Int → Int → Prop} (a : -(2 ^ 62) ≤ i ∧ i < 2 ^ 62 ∧ -(2 ^ 62) ≤ j ∧ j < 2 ^ 62) (q : R i j) : ∃ i' j' : Int, [V.int i, V.int j] = [.int i', .int j'] ∧ (-(2 ^ 62) ≤ i' ∧ i' < 2 ^ 62 ∧ -(2 ^ 62) ≤ j' ∧ j' < 2 ^ 62) ∧ R i' j' := ⟨i, j, rfl, a, q⟩
theorem g_iList {tl : TE} {R : It → Hp → Prop} (h : tl σ H fun x H1 => ∃ a, x = .ref a ∧ (∃ xs, SqL K H1 a xs) ∧ R (Itl K a) H1) : iList K tl σ H R := h
theorem g_iListb {R : Addr → Prop} (h : SqL K H p xs) (q : R p) : ∃ a, V.ref p = .ref a ∧ (∃ xs, SqL K H a xs) ∧ R a := ⟨p, rfl, ⟨xs, h⟩, q⟩
theorem g_iTup {tl : TE} {R : It → Hp → Prop} (h : tl σ H fun x H1 => ∃ a, x = .ref a ∧ (∃ xs, SqT K H1 a xs) ∧ R (Itt K a) H1) : iTup K tl σ H R := h
theorem g_iTupb {R : Addr → Prop} (h : SqT K H p xs) (q : R p) : ∃ a, V.ref p = .ref a ∧ (∃ xs, SqT K H a xs) ∧ R a := ⟨p, rfl, ⟨xs, h⟩, q⟩
theorem g_for {wi : TI} {g : TG} {tb : TS} {D : Ends} (h : wi σ H fun J H1 => ∃ W : Nat → Nat → L2.St → Hp → Prop, (∃ m, W 0 m σ H1) ∧ ∀ i m σ H, W i m σ H →
  (J.stop i H ∧ D.nx σ H) ∨ (J.go i H ∧ ∃ N : L2.St → Hp → Prop, (∀ σ' H', N σ' H' → ∃ m', m' < m ∧ W (i + 1) m' σ' H') ∧ ∀ x H', J.yld i H x H' → g x σ H' fun σ2 H2 => tb { D with nx := N, ct := N, bk := D.nx } σ2 H2)) : tFor wi g tb D σ H := h
theorem g_lc {wi : TI} {g : TG} {tt : TT} {te : TE} {vs : List Nat} (h : wi σ H fun J H1 => ∀ D, Fr H1 D → ∃ W : Nat → Nat → Hp → Prop, (∃ m, W 0 m (upd H1 D (.lst []))) ∧ ∀ i m H, W i m H →
  (J.stop i H ∧ Q (.ref D) H) ∨ (J.go i H ∧ ∃ Nx : Hp → Prop, (∀ H', Nx H' → ∃ m', m' < m ∧ W (i + 1) m' H') ∧ ∀ x H', J.yld i H x H' → g x (wipe σ vs) H' fun σ2 H2 => wipe σ2 vs = wipe σ vs ∧ tt σ2 H2 fun b H3 =>
    if b = true then te σ2 H3 fun y H4 => ∃ acc, H4 D = some (.lst acc) ∧ acc.length < sizeLine ∧ Nx (upd H4 D (.lst (acc ++ [y]))) else Nx H3)) : tLc wi g tt te vs σ H Q := h
theorem g_var {n : Nat} (h : σ[n]? = some (some v)) (q : Q v H) : tVar n σ H Q := ⟨v, h, q⟩
theorem g_rI0 {g : Int → Int → V} (q : Q (g i j) H) : rI0 g (.int i) (.int j) H Q := ⟨i, j, rfl, rfl, q⟩
theorem g_rI {C : Int → Int → Prop} {g : Int → Int → V} (c : C i j) (q : Q (g i j) H) : rI C g (.int i) (.int j) H Q := ⟨i, j, rfl, rfl, c, q⟩
theorem g_pow6 (q : Q (.int 1000000) H) : rPow (.int 10) (.int 6) H Q := ⟨10, 6, rfl, rfl, ⟨by decide, by decide, by decide⟩, q⟩
theorem g_pow12 (q : Q (.int 1000000000000) H) : rPow (.int 10) (.int 12) H Q := ⟨10, 12, rfl, rfl, ⟨by decide, by decide, by decide⟩, q⟩
theorem g_pow18 (q : Q (.int 1000000000000000000) H) : rPow (.int 10) (.int 18) H Q := ⟨10, 18, rfl, rfl, ⟨by decide, by decide, by decide⟩, q⟩
theorem g_eq (c : scal x y = true) (q : Q (.bl (decide (x = y))) H) : rEq x y H Q := ⟨c, q⟩
theorem g_ne (c : scal x y = true) (q : Q (.bl (!decide (x = y))) H) : rNe x y H Q := ⟨c, q⟩
theorem g_ixL (h : SqL K H p xs) (a : atI xs i = some v) (q : Q v H) : rIxL K (.ref p) (.int i) H Q := ⟨p, xs, i, v, rfl, rfl, h, a, q⟩
theorem g_ixT (h : SqT K H p xs) (a : atI xs i = some v) (q : Q v H) : rIxT K (.ref p) (.int i) H Q := ⟨p, xs, i, v, rfl, rfl, h, a, q⟩
theorem g_setL {Q : Hp → Prop} {n : Nat} (h : H p = some (.lst xs)) (a : ixN xs.length i = some n) (q : Q (upd H p (.lst (xs.set n v)))) : rSetL (.ref p) (.int i) v H Q := ⟨p, xs, i, n, rfl, rfl, h, a, q⟩
theorem g_len (h : SqL K H p xs ∨ SqT K H p xs) (q : Q (.int xs.length) H) : rLen K [.ref p] H Q := ⟨p, xs, rfl, h, q⟩
theorem g_test {t : TE} {Q : Bool → Hp → Prop} (h : t σ H fun x H' => ∃ k, x = .bl k ∧ Q k H') : tTest t σ H Q := h
theorem g_bl {R : Bool → Prop} {k : Bool} (q : R k) : ∃ k', V.bl k = .bl k' ∧ R k' := ⟨k, rfl, q⟩
theorem g_sz {n : Nat} {R : Prop} (z : n ≤ sizeLine) (q : R) : n ≤ sizeLine ∧ R := ⟨z, q⟩
theorem g_slL {lo hi : Option Int} (h : SqL K H p xs) (q : ∀ a, Fr H a → Q (.ref a) (upd H a (.lst (cutV xs lo hi)))) : rSlL K (.ref p) lo hi H Q := ⟨p, xs, rfl, h, q⟩
theorem g_slT {lo hi : Option Int} (h : SqT K H p xs) (w : ¬ (HT.sIx xs.length 0 lo = 0 ∧ HT.sIx xs.length xs.length hi = xs.length)) (q : ∀ a, Fr H a → Q (.ref a) (upd H a (.tup (cutV xs lo hi)))) : rSlT K (.ref p) lo hi H Q := ⟨p, xs, rfl, h, w, q⟩
theorem g_listOf (h : SqL K H p xs ∨ SqT K H p xs) (q : ∀ a, Fr H a → Q (.ref a) (upd H a (.lst xs))) : rListOf K [.ref p] H Q := ⟨p, xs, rfl, h, q⟩
theorem g_append (h : H p = some (.lst xs)) (z : xs.length < sizeLine) (q : Q .non (upd H p (.lst (xs ++ [y])))) : rAppend (.ref p) [y] H Q := ⟨p, xs, y, rfl, rfl, h, z, q⟩
theorem g_popAt {n : Nat} (h : H p = some (.lst xs)) (b1 : -(2 ^ 63) ≤ i) (b2 : i < 2 ^ 63) (s : seqIndex? i xs.length = some n) (a : xs[n]? = some v) (q : Q v (upd H p (.lst (xs.eraseIdx n)))) : rPopAt (.ref p) [.int i] H Q := ⟨p, xs, i, n, v, rfl, rfl, h, b1, b2, s, a, q⟩
theorem g_isN (q : Q (.bl (decide (x = .non))) H) : rIsN x .non H Q := ⟨rfl, q⟩
theorem g_notN (q : Q (.bl (!decide (x = .non))) H) : rNotN x .non H Q := ⟨rfl, q⟩
theorem g_neg (q : Q (.int (-i)) H) : rNeg (.int i) H Q := ⟨i, rfl, q⟩
theorem g_max2 (q : Q (.int (if j > i then j else i)) H) : rMax2 [.int i, .int j] H Q := ⟨i, j, rfl, q⟩
theorem g_min2 (q : Q (.int (if j < i then j else i)) H) : rMin2 [.int i, .int j] H Q := ⟨i, j, rfl, q⟩
end
section
variable {K : PySem.W.Frag} {H : Hp} {Q : VK} {i : Int} {p : Addr} {xs : List V}
theorem g_isi_int_int  (q : Q (.bl true) H) : rIsi K [.int i, .ty "int"] H Q := ⟨_, _, .type "int", .type "int", true, rfl, .ty _, .base (.int i), kit_ty (by decide +kernel), q⟩
theorem g_isi_int_bool  (q : Q (.bl false) H) : rIsi K [.int i, .ty "bool"] H Q := ⟨_, _, .type "int", .type "bool", false, rfl, .ty _, .base (.int i), kit_ty (by decide +kernel), q⟩
theorem g_isi_int_str  (q : Q (.bl false) H) : rIsi K [.int i, .ty "str"] H Q := ⟨_, _, .type "int", .type "str", false, rfl, .ty _, .base (.int i), kit_ty (by decide +kernel), q⟩
theorem g_isi_int_tuple  (q : Q (.bl false) H) : rIsi K [.int i, .ty "tuple"] H Q := ⟨_, _, .type "int", .type "tuple", false, rfl, .ty _, .base (.int i), kit_ty (by decide +kernel), q⟩
theorem g_isi_bl_int {k : Bool} (q : Q (.bl true) H) : rIsi K [.bl k, .ty "int"] H Q := ⟨_, _, .type "bool", .type "int", true, rfl, .ty _, .base (.bl k), kit_ty (by decide +kernel), q⟩
theorem g_isi_bl_bool {k : Bool} (q : Q (.bl true) H) : rIsi K [.bl k, .ty "bool"] H Q := ⟨_, _, .type "bool", .type "bool", true, rfl, .ty _, .base (.bl k), kit_ty (by decide +kernel), q⟩
theorem g_isi_bl_str {k : Bool} (q : Q (.bl false) H) : rIsi K [.bl k, .ty "str"] H Q := ⟨_, _, .type "bool", .type "str", false, rfl, .ty _, .base (.bl k), kit_ty (by decide +kernel), q⟩
theorem g_isi_bl_tuple {k : Bool} (q : Q (.bl false) H) : rIsi K [.bl k, .ty "tuple"] H Q := ⟨_, _, .type "bool", .type "tuple", false, rfl, .ty _, .base (.bl k), kit_ty (by decide +kernel), q⟩
theorem g_isi_str_int {z : Str} (q : Q (.bl false) H) : rIsi K [.str z, .ty "int"] H Q := ⟨_, _, .type "str", .type "int", false, rfl, .ty _, .base (.str z), kit_ty (by decide +kernel), q⟩
theorem g_isi_str_bool {z : Str} (q : Q (.bl false) H) : rIsi K [.str z, .ty "bool"] H Q := ⟨_, _, .type "str", .type "bool", false, rfl, .ty _, .base (.str z), kit_ty (by decide +kernel), q⟩
theorem g_isi_str_str {z : Str} (q : Q (.bl true) H) : rIsi K [.str z, .ty "str"] H Q := ⟨_, _, .type "str", .type "str", true, rfl, .ty _, .base (.str z), kit_ty (by decide +kernel), q⟩
theorem g_isi_str_tuple {z : Str} (q : Q (.bl false) H) : rIsi K [.str z, .ty "tuple"] H Q := ⟨_, _, .type "str", .type "tuple", false, rfl, .ty _, .base (.str z), kit_ty (by decide +kernel), q⟩
theorem g_isi_non_int  (q : Q (.bl false) H) : rIsi K [.non, .ty "int"] H Q := ⟨_, _, .type "NoneType", .type "int", false, rfl, .ty _, .base .non, kit_ty (by decide +kernel), q⟩
theorem g_isi_non_bool  (q : Q (.bl false) H) : rIsi K [.non, .ty "bool"] H Q := ⟨_, _, .type "NoneType", .type "bool", false, rfl, .ty _, .base .non, kit_ty (by decide +kernel), q⟩
theorem g_isi_non_str  (q : Q (.bl false) H) : rIsi K [.non, .ty "str"] H Q := ⟨_, _, .type "NoneType", .type "str", false, rfl, .ty _, .base .non, kit_ty (by decide +kernel), q⟩
theorem g_isi_non_tuple  (q : Q (.bl false) H) : rIsi K [.non, .ty "tuple"] H Q := ⟨_, _, .type "NoneType", .type "tuple", false, rfl, .ty _, .base .non, kit_ty (by decide +kernel), q⟩
theorem g_isi_lst_int (h : H p = some (.lst xs)) (q : Q (.bl false) H) : rIsi K [.ref p, .ty "int"] H Q := ⟨_, _, .type "list", .type "int", false, rfl, .ty _, .base (.lst h), kit_ty (by decide +kernel), q⟩
theorem g_isi_lst_bool (h : H p = some (.lst xs)) (q : Q (.bl false) H) : rIsi K [.ref p, .ty "bool"] H Q := ⟨_, _, .type "list", .type "bool", false, rfl, .ty _, .base (.lst h), kit_ty (by decide +kernel), q⟩
theorem g_isi_lst_str (h : H p = some (.lst xs)) (q : Q (.bl false) H) : rIsi K [.ref p, .ty "str"] H Q := ⟨_, _, .type "list", .type "str", false, rfl, .ty _, .base (.lst h), kit_ty (by decide +kernel), q⟩
theorem g_isi_lst_tuple (h : H p = some (.lst xs)) (q : Q (.bl false) H) : rIsi K [.ref p, .ty "tuple"] H Q := ⟨_, _, .type "list", .type "tuple", false, rfl, .ty _, .base (.lst h), kit_ty (by decide +kernel), q⟩
theorem g_isi_tup_int (h : H p = some (.tup xs)) (q : Q (.bl false) H) : rIsi K [.ref p, .ty "int"] H Q := ⟨_, _, .type "tuple", .type "int", false, rfl, .ty _, .base (.tup h), kit_ty (by decide +kernel), q⟩
theorem g_isi_tup_bool (h : H p = some (.tup xs)) (q : Q (.bl false) H) : rIsi K [.ref p, .ty "bool"] H Q := ⟨_, _, .type "tuple", .type "bool", false, rfl, .ty _, .base (.tup h), kit_ty (by decide +kernel), q⟩
theorem g_isi_tup_str (h : H p = some (.tup xs)) (q : Q (.bl false) H) : rIsi K [.ref p, .ty "str"] H Q := ⟨_, _, .type "tuple", .type "str", false, rfl, .ty _, .base (.tup h), kit_ty (by decide +kernel), q⟩
theorem g_isi_tup_tuple (h : H p = some (.tup xs)) (q : Q (.bl true) H) : rIsi K [.ref p, .ty "tuple"] H Q := ⟨_, _, .type "tuple", .type "tuple", true, rfl, .ty _, .base (.tup h), kit_ty (by decide +kernel), q⟩
end
/-! ### promises by the number of arguments -/
abbrev Sp0 (p : Hp → VK → XK → Prop) : Sp := fun vs H Q E => vs = [] ∧ p H Q E
abbrev Sp1 (p : V → Hp → VK → XK → Prop) : Sp := fun vs H Q E => ∃ a, vs = [a] ∧ p a H Q E
abbrev Sp2 (p : V → V → Hp → VK → XK → Prop) : Sp := fun vs H Q E => ∃ a b, vs = [a, b] ∧ p a b H Q E
abbrev Sp3 (p : V → V → V → Hp → VK → XK → Prop) : Sp := fun vs H Q E => ∃ a b c, vs = [a, b, c] ∧ p a b c H Q E
abbrev Sp4 (p : V → V → V → V → Hp → VK → XK → Prop) : Sp := fun vs H Q E => ∃ a b c d, vs = [a, b, c, d] ∧ p a b c d H Q E
abbrev Sp5 (p : V → V → V → V → V → Hp → VK → XK → Prop) : Sp := fun vs H Q E => ∃ a b c d e, vs = [a, b, c, d, e] ∧ p a b c d e H Q E

/-! ### heaps: all but some places is kept -/
/-- all that stood stands, but what is at the places of L -/
def Kp (L : List Addr) (H H' : Hp) : Prop := ∀ a o, H a = some o → a ∉ L → H' a = some o
theorem Kp.refl (L : List Addr) (H : Hp) : Kp L H H := fun _ _ h _ => h
theorem Kp.trans {L : List Addr} {H H1 H2 : Hp} (a : Kp L H H1) (b : Kp L H1 H2) : Kp L H H2 := fun c o h n => b c o (a c o h n) n
theorem Same.kp {H H' : Hp} (a : Same H H') (L : List Addr) : Kp L H H' := fun c o e _ => a c o e
theorem same_new {H : Hp} {p : Addr} {o : HO} (h : Fr H p) : Same H (upd H p o) := fun b x e => by
  rw [upd_ne (ne_of_none e h)]
  exact e
theorem kp_upd {H : Hp} {p : Addr} {o : HO} {L : List Addr} (h : p ∈ L) : Kp L H (upd H p o) := fun b x e n => by
  rw [upd_ne fun z => n (by rw [z]; exact h)]
  exact e
theorem Kp.new {L : List Addr} {H H' : Hp} {p : Addr} {o : HO} (a : Kp L H H') (h : Fr H' p) : Kp L H (upd H' p o) := a.trans (Same.kp (same_new h) L)
/-- a place that H did not know may change -/
theorem Kp.own {L : List Addr} {H H' : Hp} {p : Addr} {o : HO} (a : Kp L H H') (h : Fr H p) : Kp L H (upd H' p o) := fun b x e n => by
  rw [upd_ne (ne_of_none e h)]
  exact a b x e n
theorem SqT.kp {K : PySem.W.Frag} {L : List Addr} {H H' : Hp} {a : Addr} {xs : List V} (k : Kp L H H') (n : a ∉ L) (h : SqT K H a xs) : SqT K H' a xs := by
  rcases h with (h | ⟨o, h⟩) | h
  · exact .inl (.inl (k _ _ h n))
  · exact .inl (.inr ⟨o, k _ _ h n⟩)
  · exact .inr h
theorem SqL.kp {K : PySem.W.Frag} {L : List Addr} {H H' : Hp} {a : Addr} {xs : List V} (k : Kp L H H') (n : a ∉ L) (h : SqL K H a xs) : SqL K H' a xs := by
  rcases h with (h | ⟨o, h⟩) | h
  · exact .inl (.inl (k _ _ h n))
  · exact .inl (.inr ⟨o, k _ _ h n⟩)
  · exact .inr h
theorem Same.seqT {K : PySem.W.Frag} {H H' : Hp} {a : Addr} {xs : List V} (e : Same H H') (h : SqT K H a xs) : SqT K H' a xs := SqT.kp (Same.kp e []) (by simp) h
theorem get_same {H H' : Hp} {p : Addr} {o : HO} (e : Same H H') (h : H p = some o) : H' p = some o := e p o h
theorem get_kp {L : List Addr} {H H' : Hp} {p : Addr} {o : HO} (e : Kp L H H') (h : H p = some o) (n : p ∉ L) : H' p = some o := e p o h n
theorem at_new {H : Hp} {p a : Addr} {o u : HO} (hp : Fr H p) (h : H a = some o) : upd H p u a = some o := by
  rw [upd_ne (ne_of_none h hp)]
  exact h
theorem at_ne {H : Hp} {p a : Addr} {o u : HO} (n : a ≠ p) (h : H a = some o) : upd H p u a = some o := by
  rw [upd_ne n]
  exact h
theorem ne_new' {H : Hp} {p a : Addr} {o : HO} (hp : Fr H p) (h : H a = some o) : p ≠ a := (ne_of_none h hp).symm
theorem sm_new {H H' : Hp} {p : Addr} {o : HO} (hp : Fr H' p) (h : Same H H') : Same H (upd H' p o) := h.trans (same_new hp)
theorem sm_tr {H H1 H2 : Hp} (h : Same H1 H2) (e : Same H H1) : Same H H2 := e.trans h
theorem sm_own {H H' : Hp} {p : Addr} {o : HO} (hp : Fr H p) (h : Same H H') : Same H (upd H' p o) := fun b x e => at_ne (ne_of_none e hp) (h b x e)
theorem fr_of {H H' : Hp} {p : Addr} (h : Fr H' p) (e : Same H H') : Fr H p := e.free h
theorem sql_new {K : PySem.W.Frag} {H : Hp} {p a : Addr} {o : HO} {xs : List V} (hp : Fr H p) (h : SqL K H a xs) : SqL K (upd H p o) a xs := Same.seq (same_new hp) h
theorem sql_same {K : PySem.W.Frag} {H H' : Hp} {a : Addr} {xs : List V} (e : Same H H') (h : SqL K H a xs) : SqL K H' a xs := Same.seq e h
theorem sqt_same {K : PySem.W.Frag} {H H' : Hp} {a : Addr} {xs : List V} (e : Same H H') (h : SqT K H a xs) : SqT K H' a xs := Same.seqT e h
theorem sq_or {K : PySem.W.Frag} {H : Hp} {p : Addr} {xs : List V} (h : H p = some (.lst xs)) : SqL K H p xs ∨ SqT K H p xs := .inl (SqL.of h)
theorem sq_orT {K : PySem.W.Frag} {H : Hp} {p : Addr} {xs : List V} (h : H p = some (.tup xs)) : SqL K H p xs ∨ SqT K H p xs := .inr (SqT.of h)
theorem atI_map {xs : List Int} {i : Int} {v : Int} (h : atI xs i = some v) : atI (xs.map V.int) i = some (V.int v) := by
  obtain ⟨j, h1, h2, h3, h4, h5⟩ := atI_get h
  unfold atI at h ⊢
  rw [List.length_map]
  cases e : ixN xs.length i with
  | none => rw [e] at h; cases h
  | some j =>
    rw [e] at h
    have h' : xs[j]? = some v := h
    show (xs.map V.int)[j]? = _
    rw [List.getElem?_map, h']
    rfl
theorem ite_t {c : Bool} {A B : Prop} (h : c = true) (x : A) : if c = true then A else B := by
  rw [if_pos h]
  exact x
theorem ite_f {c : Bool} {A B : Prop} (h : c = false) (x : B) : if c = true then A else B := by
  rw [h, if_neg Bool.false_ne_true]
  exact x
theorem ite_dt {p : Prop} [Decidable p] {A B : Prop} (h : p) (x : A) : if decide p = true then A else B := ite_t (decide_eq_true h) x
theorem ite_df {p : Prop} [Decidable p] {A B : Prop} (h : ¬ p) (x : B) : if decide p = true then A else B := ite_f (decide_eq_false h) x
theorem ite_b {c : Bool} {A B : Prop} (h1 : c = true → A) (h2 : c = false → B) : if c = true then A else B := by
  cases c with
  | true => rw [if_pos rfl]; exact h1 rfl
  | false => rw [if_neg Bool.false_ne_true]; exact h2 rfl
theorem ite_d {p : Prop} [Decidable p] {A B : Prop} (h1 : p → A) (h2 : ¬ p → B) : if decide p = true then A else B := ite_b (fun h => h1 (of_decide_eq_true h)) fun h => h2 (of_decide_eq_false h)
theorem ite_nt {A B : Prop} (x : B) : if (!true) = true then A else B := ite_f rfl x
theorem ite_nf {A B : Prop} (x : A) : if (!false) = true then A else B := ite_t rfl x
theorem ite_nd {p : Prop} [Decidable p] {A B : Prop} (h1 : p → B) (h2 : ¬ p → A) : if (!decide p) = true then A else B := ite_b (fun h => h2 (by simpa using h)) fun h => h1 (by simpa using h)
theorem ite_ndt {p : Prop} [Decidable p] {A B : Prop} (h : p) (x : B) : if (!decide p) = true then A else B := ite_f (by simpa using h) x
theorem ite_ndf {p : Prop} [Decidable p] {A B : Prop} (h : ¬ p) (x : A) : if (!decide p) = true then A else B := ite_t (by simpa using h) x
theorem int_eq {i j : Int} : decide (V.int i = V.int j) = decide (i = j) := by
  by_cases h : i = j
  · subst h; simp
  · simp [h]
theorem map_get {α : Type} {f : α → V} {ns : List α} {i : Nat} {y : V} (h : (ns.map f)[i]? = some y) : ∃ z, y = f z ∧ ns[i]? = some z := by
  rw [List.getElem?_map] at h
  cases e : ns[i]? with
  | none => rw [e] at h; cases h
  | some z => rw [e] at h; exact ⟨z, (Option.some.inj h).symm, rfl⟩
theorem cut_to {xs : List V} {n : Int} (h : 0 ≤ n) : cutV xs none (some n) = xs.take n.toNat := by
  obtain ⟨k, rfl⟩ : ∃ k : Nat, n = k := ⟨n.toNat, by omega⟩
  unfold cutV
  rw [HT.sIx_none, HT.sIx_nat]
  simp only [List.drop_zero, Nat.sub_zero, Int.toNat_natCast]
  rw [List.take_eq_take_iff]
  simp
theorem cut_from {xs : List V} {n : Int} (h : 0 ≤ n) : cutV xs (some n) none = xs.drop n.toNat := by
  obtain ⟨k, rfl⟩ : ∃ k : Nat, n = k := ⟨n.toNat, by omega⟩
  unfold cutV
  rw [HT.sIx_none, HT.sIx_nat]
  simp only [Int.toNat_natCast]
  by_cases hk : k ≤ xs.length
  · rw [Nat.min_eq_left hk, List.take_of_length_le (by rw [List.length_drop]; omega)]
  · rw [Nat.min_eq_right (by omega), List.drop_of_length_le (by omega), List.drop_of_length_le (by omega)]
    simp
theorem at_k0 {xs : List V} {v : V} (h : xs[0]? = some v) : atI xs 0 = some v := atI_nat (j := 0) h
theorem at_k1 {xs : List V} {v : V} (h : xs[1]? = some v) : atI xs 1 = some v := atI_nat (j := 1) h
theorem at_k2 {xs : List V} {v : V} (h : xs[2]? = some v) : atI xs 2 = some v := atI_nat (j := 2) h
theorem at_k3 {xs : List V} {v : V} (h : xs[3]? = some v) : atI xs 3 = some v := atI_nat (j := 3) h
theorem ix_k0 {n : Nat} (h : 0 < n) : ixN n 0 = some 0 := by
  unfold ixN
  simp
  omega
theorem ix_k1 {n : Nat} (h : 1 < n) : ixN n 1 = some 1 := by
  unfold ixN
  simp
  omega
/-- one of a written list's items -/
theorem pick {xs : List V} {i : Int} (h0 : 0 ≤ i) (h : i < xs.length) : ∃ v, atI xs i = some v ∧ v ∈ xs := by
  have hj : i.toNat < xs.length := by omega
  have e : ((i.toNat : Nat) : Int) = i := by omega
  exact ⟨xs[i.toNat], by
    have h := atI_nat (List.getElem?_eq_getElem hj)
    rwa [e] at h, List.getElem_mem hj⟩
theorem g_pick2 {K : PySem.W.Frag} {H : Hp} {Q : VK} {p : Addr} {a b w : Int} (h : SqL K H p [.int a, .int b]) (h0 : 0 ≤ w) (h1 : w < 2) (q : ∀ v : Int, v = a ∨ v = b → Q (.int v) H) : rIxL K (.ref p) (.int w) H Q := by
  obtain ⟨v, hv, hm⟩ := pick (xs := [.int a, .int b]) h0 h1
  simp only [List.mem_cons, List.not_mem_nil, or_false] at hm
  rcases hm with rfl | rfl <;> exact ⟨p, _, w, _, rfl, rfl, h, hv, q _ (by simp)⟩
theorem g_pick4 {K : PySem.W.Frag} {H : Hp} {Q : VK} {p : Addr} {a b c d w : Int} (h : SqL K H p [.int a, .int b, .int c, .int d]) (h0 : 0 ≤ w) (h1 : w < 4) (q : ∀ v : Int, v = a ∨ v = b ∨ v = c ∨ v = d → Q (.int v) H) : rIxL K (.ref p) (.int w) H Q := by
  obtain ⟨v, hv, hm⟩ := pick (xs := [.int a, .int b, .int c, .int d]) h0 h1
  simp only [List.mem_cons, List.not_mem_nil, or_false] at hm
  rcases hm with rfl | rfl | rfl | rfl <;> exact ⟨p, _, w, _, rfl, rfl, h, hv, q _ (by simp)⟩
theorem g_pick5 {K : PySem.W.Frag} {H : Hp} {Q : VK} {p : Addr} {a b c d e w : Int} (h : SqL K H p [.int a, .int b, .int c, .int d, .int e]) (h0 : 0 ≤ w) (h1 : w < 5) (q : ∀ v : Int, v = a ∨ v = b ∨ v = c ∨ v = d ∨ v = e → Q (.int v) H) : rIxL K (.ref p) (.int w) H Q := by
  obtain ⟨v, hv, hm⟩ := pick (xs := [.int a, .int b, .int c, .int d, .int e]) h0 h1
  simp only [List.mem_cons, List.not_mem_nil, or_false] at hm
  rcases hm with rfl | rfl | rfl | rfl | rfl <;> exact ⟨p, _, w, _, rfl, rfl, h, hv, q _ (by simp)⟩
theorem g_pick {K : PySem.W.Frag} {H : Hp} {Q : VK} {p : Addr} {xs : List V} {w : Int} (h : SqL K H p xs) (h0 : 0 ≤ w) (h1 : w < xs.length) (q : ∀ v, v ∈ xs → Q v H) : rIxL K (.ref p) (.int w) H Q := by
  obtain ⟨v, hv, hm⟩ := pick (xs := xs) h0 h1
  exact ⟨p, _, w, _, rfl, rfl, h, hv, q _ hm⟩
theorem kp_tr {L : List Addr} {H H1 H2 : Hp} (b : Kp L H1 H2) (a : Kp L H H1) : Kp L H H2 := a.trans b
theorem kp_own {L : List Addr} {H H' : Hp} {p : Addr} {o : HO} (hp : Fr H p) (a : Kp L H H') : Kp L H (upd H' p o) := Kp.own a hp
theorem kp_new {L : List Addr} {H H' : Hp} {p : Addr} {o : HO} (hp : Fr H' p) (a : Kp L H H') : Kp L H (upd H' p o) := Kp.new a hp
theorem fr_kp {L : List Addr} {H H' : Hp} {p : Addr} (h : Fr H' p) (e : Kp L H H') (n : p ∉ L) : Fr H p := by
  replace h : H' p = none := h
  cases hH : H p with
  | none => exact hH
  | some o => rw [e p o hH n] at h; cases h
theorem fr_new {H : Hp} {p q : Addr} {o : HO} (h : Fr (upd H q o) p) : Fr H p := by
  replace h : upd H q o p = none := h
  show H p = none
  by_cases e : p = q
  · rw [e, upd_same] at h; cases h
  · rwa [upd_ne e] at h
theorem g_extend {H : Hp} {Q : VK} {p b : Addr} {xs zs : List V} (h : H p = some (.lst xs)) (h2 : H b = some (.lst zs)) (z : xs.length + zs.length ≤ sizeLine) (q : Q .non (upd H p (.lst (xs ++ zs)))) : rExtend (.ref p) [.ref b] H Q := ⟨p, b, xs, zs, rfl, rfl, h, h2, z, q⟩
theorem g_lenA {K : PySem.W.Frag} {H : Hp} {Q : VK} {x : V} {n : Nat} (h : LenV K x H n) (q : Q (.int n) H) : rLenA K [x] H Q := ⟨x, n, rfl, h, q⟩
theorem g_cat {H : Hp} {Q : VK} {p b : Addr} {xs zs : List V} (h : H p = some (.lst xs)) (h2 : H b = some (.lst zs)) (z : xs.length + zs.length ≤ sizeLine) (q : ∀ l, Fr H l → Q (.ref l) (upd H l (.lst (xs ++ zs)))) : rCat (.ref p) (.ref b) H Q := ⟨p, b, xs, zs, rfl, rfl, h, h2, z, q⟩
theorem g_rng3 {σ : L2.St} {H : Hp} {ta : TA} {R : It → Hp → Prop} (h : ta σ H fun vs H1 => ∃ (i j c : Int) (n : Nat), vs = [.int i, .int j, .int c] ∧ RgC i j c n ∧ R (Itc i c n) H1) : iRng3 ta σ H R := h
theorem g_pickL {K : PySem.W.Frag} {H : Hp} {Q : VK} {p : Addr} {xs : List V} {w n : Int} (h : H p = some (.lst xs)) (h0 : 0 ≤ w) (h1 : w < n) (e : n = (xs.length : Nat)) (q : ∀ v, v ∈ xs → Q v H) : rIxL K (.ref p) (.int w) H Q := g_pick (SqL.of h) h0 (by rw [← e]; exact h1) q
/-! YG: defs that are only ever run while no display of a container goes on: what repr of lists and tuples wants. -/
open PySem PySem.Spec PyProof.Rows L2
/-- room, and no display under way -/
structure RoomG (k : Nat) (A : Around) : Prop where
  rm : Room k A
  no : A.guards = some []
theorem RoomG.mono {i k : Nat} {A : Around} (r : RoomG k A) (h : i ≤ k) : RoomG i A := ⟨r.rm.mono h, r.no⟩
theorem RoomG.deeper {k : Nat} {A : Around} (r : RoomG (k + 1) A) (v : Env) : RoomG k (A.deeper v) := ⟨r.rm.deeper v, r.no⟩
theorem RoomG.units {k : Nat} {A : Around} (r : RoomG k A) : A.units + 64 < cLine := r.rm.units
theorem make_guards {A : Around} {C : Addr} {us : List Value} : (A.under (.builtin "type.__call__" ⟨.ref C :: us, []⟩)).guards = A.guards := by
  have e : (Code.builtin "type.__call__" ⟨.ref C :: us, []⟩).guards = [] := by
    unfold Code.guards
    rw [if_neg]
    simp [Code.isGuard, guardIds]
  show pushGuards (Code.builtin "type.__call__" ⟨.ref C :: us, []⟩).guards A.guards = A.guards
  rw [e, pushGuards_eq]
  cases A.guards <;> simp
theorem RoomG.make {k : Nat} {A : Around} (r : RoomG (k + 1) A) (C : Addr) (us : List Value) : RoomG k (A.under (.builtin "type.__call__" ⟨.ref C :: us, []⟩)) := ⟨r.rm.make C us [], make_guards.trans r.no⟩
/-- a def keeps its promise wherever there is room and no display under way -/
structure FnG (P : Program) (w : World) (K : PySem.W.Frag) (mg : Str → Option Value) (base : Heap) (CX : CXT) (k : Nat) (f : Addr) (fd : FuncData) (ps : List Str) (sp : Sp) : Prop where
  len : ∀ vs H Q E, sp vs H Q E → vs.length = ps.length
  run : ∀ (A : Around) (outer : List Env) (s : Shared) (H : Hp) (args : Args) (us : List Value) (vs : List V) (Q : VK) (E : XK), RoomG k A → Env0 P w K mg base A outer s H → BindsTo s fd args (ps.zip us) → Vals vs us →
    sp vs H Q E → codeAny (model P w) A (.call (.ref f) args) (CR CX outer P w H s Q E) s
section
variable {X : Cx} {CX : CXT} {k : Nat} {f C : Addr} {fd : FuncData} {ps : List Str} {sp : Sp} {dvs : List V} {ds : List Value} {E : XK} {x m : Str} {p pos apos : Pos} {e o : Expr} {es : List Expr} {ta : TE} {t : TA} {pins : List (Addr × Obj)} {σ : L2.St} {H : Hp} {s : Shared} {Q : VK} {us : List Value} {vs : List V}
/-- the callee's run, from a body -/
theorem g_runs (F : FnG X.prog X.w X.K X.mg X.base CX k f fd ps sp) (room : RoomG k X.A) (bi : Binds X.K fd ps ds) (dv : Vals dvs ds) (pass : Passes CX X E) (I : Inv X pins σ H s) (rv : Vals vs us) (pr : sp (vs ++ dvs) H Q E) :
    wpAny (model X.prog X.w) X.A (call (.ref f) us) (EP X pins σ Q) X.xe s := by
  have whole := rv.append dv
  have n : (us ++ ds).length = ps.length := whole.length.symm.trans (F.len _ _ _ _ pr)
  refine wpAny_call (codeAny_mono (F.run _ _ _ _ _ _ _ _ _ room I.env0 (bi _ _ I.kIn n) whole pr) ?_)
  intro end_ s' h
  match end_, h with
  | .error _, h => exact pass _ _ _ _ _ _ I h
  | .ok (.ret _), h => exact I.after h
theorem g_pe_call (F : FnG X.prog X.w X.K X.mg X.base CX k f fd ps sp) (room : RoomG k X.A) (gl : Gl X x) (at_ : X.mg x = some (.ref f)) (kept : PySem.W.keepIn X.K (.ref f) = true) (bi : Binds X.K fd ps ds) (dv : Vals dvs ds) (pass : Passes CX X E) (args : PA X (e :: es) t)
    (nd : (x == ("__debug__" : Str)) = false := by decide) (st : starEach (e :: es) X.env = (false, eval e X.env) :: starEach es X.env := by rfl) (pl : (backTo pos (starEach es X.env)).any (·.1) = false := by rfl) :
    PE X (.Call (.Name x p) (e :: es) [] pos) (tCall sp dvs E t) := ⟨fun pins s σ H Q I h =>
  wpAny_Call_Name_kw (ld_glob I gl at_ (PySem.W.callWith_K (h₀ := X.base) I.ok.mod.kin kept (thn (args.run pos pins s σ H _ I h) fun _ _ ⟨_, _, I1, r, q⟩ => ⟨I1.kIn, g_runs F room bi dv pass I1 r q⟩) st pl) nd)⟩
theorem g_pe_meth {pl : Sem Bool} (ob : PE X o ta) (cl : Cls X.K C) (me : Meth X.K C m f) (F : FnG X.prog X.w X.K X.mg X.base CX k f fd ps sp) (room : RoomG k X.A) (bi : Binds X.K fd ps ds) (dv : Vals dvs ds) (pass : Passes CX X E) (args : PA X (e :: es) t)
    (st : starEach (e :: es) X.env = (false, eval e X.env) :: starEach es X.env := by rfl) (sp_ : (backTo pos (starEach es X.env)).any (·.1) = false := by rfl)
    (arm : eval (.Call (.Attribute o m apos) (e :: es) [] pos) X.env = (do
      let r ← eval o X.env
      standAt apos.atName
      let (g, first) ← holding [r] (getMethod r m pl)
      callWith pos g first (backTo pos (starEach (e :: es) X.env)) (backToKw pos (keywordEach [] X.env))) := by rfl) :
    PE X (.Call (.Attribute o m apos) (e :: es) [] pos) (tMeth C m sp dvs E ta t) := ⟨fun pins s σ H Q I h => by
  refine PySem.W.methodCall_KW (pl := pl) (thn (ob.run pins s σ H _ I h) ?_) arm
  rintro u s1 ⟨_, H1, I1, rx, a, dx, fs, rfl, at_, no, q⟩
  obtain rfl : u = Value.ref a := rx
  exact getmeth_ok I1 at_ cl me no (PySem.W.callWith_K (first := [.ref a]) (h₀ := X.base) I.ok.mod.kin me.kp (thn (args.run pos pins s1 σ H1 _ I1 q) fun us _ ⟨vs, _, I2, r, q2⟩ => ⟨I2.kIn, g_runs (us := .ref a :: us) (vs := .ref a :: vs) F room bi dv pass I2 (.cons rfl r) q2⟩) st sp_)⟩
theorem g_pe_meth0 {pl : Sem Bool} (ob : PE X o ta) (cl : Cls X.K C) (me : Meth X.K C m f) (F : FnG X.prog X.w X.K X.mg X.base CX k f fd ps sp) (room : RoomG k X.A) (bi : Binds X.K fd ps ds) (dv : Vals dvs ds) (pass : Passes CX X E)
    (arm : eval (.Call (.Attribute o m apos) [] [] pos) X.env = (do
      let r ← eval o X.env
      standAt apos.atName
      let (g, first) ← holding [r] (getMethod r m pl)
      callWith pos g first (backTo pos (starEach [] X.env)) (backToKw pos (keywordEach [] X.env))) := by rfl) :
    PE X (.Call (.Attribute o m apos) [] [] pos) (tMeth C m sp dvs E ta tNil) := ⟨fun pins s σ H Q I h => by
  refine PySem.W.methodCall_KW (pl := pl) (thn (ob.run pins s σ H _ I h) ?_) arm
  rintro u s1 ⟨_, H1, I1, rx, a, dx, fs, rfl, at_, no, q⟩
  obtain rfl : u = Value.ref a := rx
  exact getmeth_ok I1 at_ cl me no (PySem.W.callWith_K0 (first := [.ref a]) I1.kIn me.kp (g_runs (us := [.ref a]) (vs := [.ref a]) F room bi dv pass I1 (.cons rfl .nil) q))⟩
/-- a class is made -/
theorem g_makes (M : Mk X.K C f) (F : FnG X.prog X.w X.K X.mg X.base CX k f fd ps sp) (room : RoomG (k + 1) X.A) (bi : Binds X.K fd ps ds) (dv : Vals dvs ds) (pass : Passes CX X E) (I : Inv X pins σ H s) (rv : Vals vs us)
    (pr : ∀ x dx, H x = none → H dx = none → dx ≠ x → sp (.ref x :: (vs ++ dvs)) (upd (upd H dx (.own x)) x (.ins C dx [])) (fun v H2 => v = .non ∧ Q (.ref x) H2) E) :
    wpAny (model X.prog X.w) X.A (call (.ref C) us) (EP X pins σ Q) X.xe s := by
  have J := Inv.made (C := C) I
  have z := pr _ _ (I.hok.fresh (Nat.le_succ s.heap.objs.size)) (I.hok.fresh (Nat.le_refl s.heap.objs.size)) (Nat.ne_of_lt (Nat.lt_succ_self _))
  have whole : Vals (V.ref (s.heap.objs.size + 1) :: (vs ++ dvs)) (Value.ref (s.heap.objs.size + 1) :: (us ++ ds)) := .cons rfl (rv.append dv)
  have n : ((Value.ref (s.heap.objs.size + 1) :: us) ++ ds).length = ps.length := whole.length.symm.trans (F.len _ _ _ _ z)
  refine wpAny_call (make_map (f := f) I.kIn M.makes M.init (beq_iff_eq.mp M.fn) (codeAny_mono (F.run _ _ _ _ _ _ _ _ _ (room.make C us) (J.env0.make C us []) (bi _ _ J.kIn n) whole z) ?_))
  intro end_ s' h
  match end_, h with
  | .error _, h => exact pass _ _ _ _ _ _ J h
  | .ok (.ret _), h =>
    obtain ⟨v, H', J', rv', rfl, q'⟩ := J.after h
    exact ⟨rv', V.ref (s.heap.objs.size + 1), H', J', rfl, q'⟩
theorem g_pe_make (M : Mk X.K C f) (F : FnG X.prog X.w X.K X.mg X.base CX k f fd ps sp) (room : RoomG (k + 1) X.A) (gl : Gl X x) (at_ : X.mg x = some (.ref C)) (bi : Binds X.K fd ps ds) (dv : Vals dvs ds) (pass : Passes CX X E) (args : PA X (e :: es) t)
    (nd : (x == ("__debug__" : Str)) = false := by decide) (st : starEach (e :: es) X.env = (false, eval e X.env) :: starEach es X.env := by rfl) (pl : (backTo pos (starEach es X.env)).any (·.1) = false := by rfl) :
    PE X (.Call (.Name x p) (e :: es) [] pos) (tMake C sp dvs E t) := ⟨fun pins s σ H Q I h =>
  wpAny_Call_Name_kw (ld_glob I gl at_ (PySem.W.callWith_K (h₀ := X.base) I.ok.mod.kin M.kp (thn (args.run pos pins s σ H _ I h) fun _ _ ⟨_, _, I1, r, q⟩ => ⟨I1.kIn, g_makes M F room bi dv pass I1 r q⟩) st pl) nd)⟩
end
section
variable {P : Program} {w : World} {K : PySem.W.Frag} {mg : Str → Option Value} {base : Heap} {CX : CXT} {k : Nat} {x qual : Str} {params : Arguments} {body : List Stmt} {scope : Scope} {dvs : List V} {kws : List (Str × V)} {f : Addr} {fd : FuncData} {N ps : List Str} {sp : Sp}
/-- a def of the text keeps its promise, by its body -/
theorem g_def (F : FunD K x qual params body scope dvs kws f fd) (S : FnScope N ps scope) (len : ∀ vs H Q E, sp vs H Q E → vs.length = ps.length)
    (inside : ∀ (cdv : Value) (A : Around) (outer : List Env) (s : Shared) (H : Hp) (vs : List V) (Q : VK) (E : XK), RoomG k (A.deeper (envOfC qual scope s.heap.objs.size f cdv)) → sp vs H Q E →
      ∃ t, PSs (cxOf CX P w K mg base N qual scope f cdv A outer s H E) body t ∧ t { nx := fun _ H' => Q .non H', rt := Q } (start N vs) H) : FnG P w K mg base CX (k + 1) f fd ps sp where
  len := len
  run := fun A outer s H args us vs Q E room e0 bi rv pr => by
    obtain ⟨_, _, dV, kV, doc, pm, an, cdv, ct, _, rfl, stands, code, -, -⟩ := F.ex
    have n := len _ _ _ _ pr
    have bs := fun b o e => (e0.bs b o e).1
    have hK : K.In s.heap := e0.mod.kin.keeps bs
    have par : ∀ y ∈ ps.zip us, scope.names.lookup y.1 = some .local ∨ (scope.names.lookup y.1 = some .cell ∧ ((cellsFrom (s.heap.objs.size + 1) scope.names []).lookup y.1).isSome = true) := fun y hy =>
      (S.par y.1 (List.of_mem_zip (show (y.1, y.2) ∈ ps.zip us from hy)).1).imp id fun z => ⟨z, PySem.W.cellsFrom_some _ _ _ (.inl z)⟩
    refine codeAny_call_function room.rm.depth (hK _ _ stands) rfl S.co S.gen rfl (PySem.W.codeRec_of hK code) (bi _ _ _ _ (wpAny_newFunctionEnv_cells S.kind par ?_))
    rintro _ rfl s1 into
    refine ⟨(e0.mod.nolimit.keeps bs).keeps into.toInCall.keep, codeAny_func ?_⟩
    obtain ⟨t, reads, holds⟩ := inside cdv A outer s H vs Q E (room.deeper _) pr
    have I := inv_start (CX := CX) (E := E) (cd := cdv) S room.rm.hd e0 n rv into
    refine wpAny_mono (reads.run [] s1 (start N vs) H _ I holds) ?_ fun _ _ z => z
    intro fl s' z
    match fl, z with
    | .ret _, ⟨v, _, H', J, rr, q⟩ => exact ⟨v, H', J.os, J.bare, J.base, J.hok, rr, q⟩
    | .next, ⟨_, H', J, q⟩ => exact ⟨.non, H', J.os, J.bare, J.base, J.hok, rfl, q⟩
    | .brk, ⟨_, _, _, q⟩ => exact q.elim
    | .cont, ⟨_, _, _, q⟩ => exact q.elim
end
/-! ### the law's end -/
section
variable {P : Program} {w : World} {K : PySem.W.Frag} {mg mb : Str → Option Value} {CX : CXT} {k : Nat} {fa a : Addr} {fd : FuncData} {x : Str} {sp : Sp} {s₁ : Shared} {vs : List Value} {ns : List Int}
/-- the law's call, from an abstract heap that knows nothing but the script -/
theorem g_top {H : Hp} (KX : K.In s₁.heap) (hns : s₁.heap.Ns mainGlobals mg) (hb : s₁.heap.Ns builtinsNs mb) (hbb : ∀ x : Str, x ≠ "__name__" → mb x = bootBuiltins x) (hlim : s₁.heap.NoLimit) (hg : s₁.gens = #[])
    (ha : s₁.heap.get? a = some { cls := .type "list", data := .seq vs.toArray }) (room : RoomG k callerA)
    (F : ∀ base : Heap, K.In base → base.Ns mainGlobals mg → FnG P w K mg base CX k fa fd [x] sp) (bi : ∀ (s : Shared) (u : Value), BindsTo s fd ⟨[u], []⟩ [(x, u)])
    (pr : sp [.ref a] H (fun v _ => v = .bl true) fun _ _ _ => False) (no : ∀ e s', CX [] H s₁ (fun _ _ _ => False) e s' → False)
    (only : Only H) (ok : HOk P w H s₁.heap) (hA : ∀ b, H b ≠ none → b = a) (hK : H a ≠ none → K.lookup a = none) :
    codeAny (model P w) callerA (.call (.ref fa) ⟨[.ref a], []⟩) (fun r s' => r = .ok (.ret (.bool true)) ∧ OldK s₁.heap s'.heap ∧ s'.os = s₁.os ∧ AllBare s'.gens) s₁ := by
  have dictFree : ∀ {b : Addr} {o : Obj} {es : Array DictEntry} {n : Nat}, s₁.heap.get? b = some o → o.data = .dict es n → H b = none := by
    intro b o es n e d
    by_cases z : H b = none
    · exact z
    · obtain rfl := hA b z
      cases ha.symm.trans e
      cases d
  have space : ∀ {b : Addr} {m : Str → Option Value}, s₁.heap.Ns b m → (hidT s₁.heap H).Ns b m := by
    rintro b m ⟨o, es, n, e, d, rest⟩
    exact ⟨o, es, n, hidT_get e (dictFree e d), d, rest⟩
  have mine : K.In (hidT s₁.heap H) := by
    intro b o e
    refine hidT_get (KX b o e) ?_
    by_cases z : H b = none
    · exact z
    · obtain rfl := hA b z
      rw [hK z] at e
      cases e
  have lim : (hidT s₁.heap H).NoLimit := by
    obtain ⟨m, h1, h2⟩ := hlim
    exact ⟨m, space h1, h2⟩
  have e0 : Env0 P w K mg (hidT s₁.heap H) callerA [] s₁ H :=
    { frames := rfl, mod := ⟨mine, space hns, ⟨mb, space hb, hbb⟩, lim⟩, bs := fun _ _ e => of_hidT e, bsz := Nat.le_of_eq (hidT_size _ _), funs := trivial, frf := fun b z => absurd (show b ∈ ([] : List Addr) from z) (by simp), hok := ok, bare := .of_eq hg }
  refine codeAny_mono ((F _ mine (space hns)).run callerA [] s₁ H ⟨[.ref a], []⟩ [.ref a] [.ref a] _ _ room e0 (bi s₁ (.ref a)) (.cons rfl .nil) pr) ?_
  intro end_ s' z
  match end_, z with
  | .error _, z => exact (no _ _ z).elim
  | .ok (.ret u), ⟨v, H', os, bare, un, ok', rr, q⟩ =>
    obtain rfl : v = .bl true := q
    obtain rfl : u = Value.bool true := rr
    refine ⟨rfl, OldK.of_keep fun b o e => ?_, os, bare⟩
    rcases only b with z | ⟨ob, xs, z⟩
    · exact un.keep b o e z (fun y => absurd (show b ∈ ([] : List Addr) from y) (by simp)) (by simp)
    · obtain ⟨y1, -⟩ := ok b _ z
      obtain ⟨y2, -⟩ := ok' b _ (un.frzs b ob _ z)
      cases e.symm.trans y1
      exact y2
theorem g_law (KX : K.In s₁.heap) (hns : s₁.heap.Ns mainGlobals mg) (hb : s₁.heap.Ns builtinsNs mb) (hbb : ∀ x : Str, x ≠ "__name__" → mb x = bootBuiltins x) (hlim : s₁.heap.NoLimit) (hg : s₁.gens = #[])
    (ha : s₁.heap.get? a = some { cls := .type "list", data := .seq vs.toArray }) (hi : IntsAre vs ns) (hl : ns.length ≤ sizeLine) (room : RoomG k callerA)
    (F : ∀ base : Heap, K.In base → base.Ns mainGlobals mg → FnG P w K mg base CX k fa fd [x] sp) (bi : ∀ (s : Shared) (u : Value), BindsTo s fd ⟨[u], []⟩ [(x, u)])
    (pr : ∀ H : Hp, Only H → SqL K H a (ns.map V.int) → sp [.ref a] H (fun v _ => v = .bl true) fun _ _ _ => False) (no : ∀ H e s', CX [] H s₁ (fun _ _ _ => False) e s' → False) :
    codeAny (model P w) callerA (.call (.ref fa) ⟨[.ref a], []⟩) (fun r s' => r = .ok (.ret (.bool true)) ∧ OldK s₁.heap s'.heap ∧ s'.os = s₁.os ∧ AllBare s'.gens) s₁ := by
  have rv := vals_ints hi
  have n := hi.length
  rcases hk : K.lookup a with _ | o
  · let o0 : Obj := { cls := .type "list", data := .seq vs.toArray }
    let H : Hp := fun b => if b = a then some (.frz o0 (.lst (ns.map V.int))) else none
    have Ha : H a = some (.frz o0 (.lst (ns.map V.int))) := if_pos rfl
    have Hn : ∀ b, b ≠ a → H b = none := fun b z => if_neg z
    have only : Only H := fun b => if z : b = a then .inr ⟨o0, ns.map V.int, by rw [z]; exact Ha⟩ else .inl (Hn b z)
    refine g_top (H := H) KX hns hb hbb hlim hg ha room F bi (pr H only (.inl (.inr ⟨o0, Ha⟩))) (no H) only ?_ (fun b z => ?_) fun _ => hk
    · intro b u z
      by_cases y : b = a
      · subst y
        cases Ha.symm.trans z
        exact ⟨ha, by rw [List.length_map]; exact hl, vs, _, rv, ha⟩
      · cases (Hn b y).symm.trans z
    · by_cases y : b = a
      · exact y
      · exact absurd (Hn b y) z
  · cases (KX a o hk).symm.trans ha
    have only : Only fun _ => none := fun _ => .inl rfl
    exact g_top (H := fun _ => none) KX hns hb hbb hlim hg ha room F bi (pr _ only (.inr ⟨_, vs.toArray, _, hk, rfl, rfl, rfl, by rw [List.size_toArray, n]; exact hl, by simpa using rv⟩)) (no _) only (fun b u z => nomatch (show (none : Option HO) = some u from z)) (fun b z => absurd rfl z) fun z => absurd rfl z
end
/-- a law, of defs that are run while no display goes on -/
theorem g_walk {l : PySem.W.OpenLaw} {n k : Nat} {q : Program} {loose : List Str} {XP : (Str → Option Value) → Heap → Prop} {YP : World → Heap → Prop} {d : DefRec} {CX : CXT} {x : Str} (hn : l.most = some n) (hn2 : n ≤ sizeLine) (hdf : d.params.defaults = []) (room : Room k callerA)
    (F : ∀ (w : World) (mg : Str → Option Value) (fa : Addr) (h : Heap), YP w h → h.Ns mainGlobals mg → mg d.name = some (.ref fa) →
      ∃ (K : PySem.W.Frag) (fd : FuncData) (sp : Sp), K.In h ∧ (∀ (s : Shared) (u : Value), BindsTo s fd ⟨[u], []⟩ [(x, u)]) ∧
        (∀ (H : Hp) (a : Addr) (ns : List Int), ns.length ≤ n → Only H → SqL K H a (ns.map V.int) → sp [.ref a] H (fun v _ => v = .bl true) fun _ _ _ => False) ∧ ∀ base : Heap, K.In base → base.Ns mainGlobals mg → FnG l.prog w K mg base CX k fa fd [x] sp)
    (no : ∀ (H : Hp) (s : Shared) (e : Value) (s' : Shared), CX [] H s (fun _ _ _ => False) e s' → False) : PySem.W.WalkO q loose XP YP l.row.toRowW d [] (fun f vs => PySem.call f vs) := by
  refine Att.attach_call hn hdf ?_
  intro w s₀ s₁ mg mb fa o pm cd doc a vs ns G Y ho hd hcd hmg hobj hints hlen hg
  obtain ⟨K, fd, sp, KX, bi, pr, hF⟩ := F w mg fa _ Y G.T.g hmg
  exact g_law KX G.T.g G.T.b G.T.builtins G.T.nolimit hg hobj hints (Nat.le_trans hlen hn2) ⟨room, rfl⟩ hF bi (fun H => pr H a ns hlen) (fun H => no H s₁)
/-! ### repr of data -/
/-- repr(x) of data -/
def rReprD (K : PySem.W.Frag) : List V → Hp → VK → Prop := fun vs H Q => ∃ x d, vs = [x] ∧ Dp K H x d ∧ d.showable = true ∧ d.hasDict = false ∧ d.depth ≤ 60 ∧ d.shown.length ≤ sizeLine ∧ Q (.str d.shown) H
/-! ### a def that may be called by its name, a class that may be made, a method -/
structure Cal (P : Program) (w : World) (K : PySem.W.Frag) (mg : Str → Option Value) (base : Heap) (CX : CXT) (k : Nat) (x : Str) (sp : Sp) (dvs : List V) : Prop where
  ex : ∃ (f : Addr) (fd : FuncData) (ps : List Str) (ds : List Value), FnG P w K mg base CX k f fd ps sp ∧ mg x = some (.ref f) ∧ PySem.W.keepIn K (.ref f) = true ∧ Binds K fd ps ds ∧ Vals dvs ds
structure Mak (P : Program) (w : World) (K : PySem.W.Frag) (mg : Str → Option Value) (base : Heap) (CX : CXT) (k : Nat) (x : Str) (C : Addr) (sp : Sp) (dvs : List V) : Prop where
  ex : ∃ (f : Addr) (fd : FuncData) (ps : List Str) (ds : List Value), Mk K C f ∧ FnG P w K mg base CX k f fd ps sp ∧ mg x = some (.ref C) ∧ Binds K fd ps ds ∧ Vals dvs ds
structure Met (P : Program) (w : World) (K : PySem.W.Frag) (mg : Str → Option Value) (base : Heap) (CX : CXT) (k : Nat) (C : Addr) (m : Str) (sp : Sp) (dvs : List V) : Prop where
  ex : ∃ (f : Addr) (fd : FuncData) (ps : List Str) (ds : List Value), Cls K C ∧ Meth K C m f ∧ FnG P w K mg base CX k f fd ps sp ∧ Binds K fd ps ds ∧ Vals dvs ds
section
variable {X : Cx} {CX : CXT} {E : XK} {k j : Nat} {C : Addr} {x m : Str} {sp : Sp} {dvs : List V} {p pos apos : Pos} {e o : Expr} {es : List Expr} {ta : TE} {t : TA}
theorem pe_c (c : Cal X.prog X.w X.K X.mg X.base CX k x sp dvs) (hr : RoomG j X.A) (hk : k ≤ j) (hg : Gl X x) (hx : Passes CX X E) (ha : PA X (e :: es) t)
    (hdb : (x == ("__debug__" : Str)) = false := by decide) (he : starEach (e :: es) X.env = (false, eval e X.env) :: starEach es X.env := by rfl) (hpl : (backTo pos (starEach es X.env)).any (·.1) = false := by rfl) :
    PE X (.Call (.Name x p) (e :: es) [] pos) (tCall sp dvs E t) := by
  obtain ⟨f, fd, ps, ds, F, hm, kp, b, d⟩ := c.ex
  exact g_pe_call F (hr.mono hk) hg hm kp b d hx ha hdb he hpl
theorem pe_k (c : Mak X.prog X.w X.K X.mg X.base CX k x C sp dvs) (hr : RoomG j X.A) (hk : k + 1 ≤ j) (hg : Gl X x) (hx : Passes CX X E) (ha : PA X (e :: es) t)
    (hdb : (x == ("__debug__" : Str)) = false := by decide) (he : starEach (e :: es) X.env = (false, eval e X.env) :: starEach es X.env := by rfl) (hpl : (backTo pos (starEach es X.env)).any (·.1) = false := by rfl) :
    PE X (.Call (.Name x p) (e :: es) [] pos) (tMake C sp dvs E t) := by
  obtain ⟨f, fd, ps, ds, M, F, hm, b, d⟩ := c.ex
  exact g_pe_make M F (hr.mono hk) hg hm b d hx ha hdb he hpl
theorem pe_m {pl : Sem Bool} (c : Met X.prog X.w X.K X.mg X.base CX k C m sp dvs) (hr : RoomG j X.A) (hk : k ≤ j) (hx : Passes CX X E) (he : PE X o ta) (ha : PA X (e :: es) t)
    (hst : starEach (e :: es) X.env = (false, eval e X.env) :: starEach es X.env := by rfl) (hpl : (backTo pos (starEach es X.env)).any (·.1) = false := by rfl)
    (ht : eval (.Call (.Attribute o m apos) (e :: es) [] pos) X.env = (do
      let ov ← eval o X.env
      standAt apos.atName
      let (f, first) ← holding [ov] (getMethod ov m pl)
      callWith pos f first (backTo pos (starEach (e :: es) X.env)) (backToKw pos (keywordEach [] X.env))) := by rfl) :
    PE X (.Call (.Attribute o m apos) (e :: es) [] pos) (tMeth C m sp dvs E ta t) := by
  obtain ⟨f, fd, ps, ds, hc, hm, F, b, d⟩ := c.ex
  exact g_pe_meth (pl := pl) he hc hm F (hr.mono hk) b d hx ha hst hpl ht
theorem pe_m0 {pl : Sem Bool} (c : Met X.prog X.w X.K X.mg X.base CX k C m sp dvs) (hr : RoomG j X.A) (hk : k ≤ j) (hx : Passes CX X E) (he : PE X o ta)
    (ht : eval (.Call (.Attribute o m apos) [] [] pos) X.env = (do
      let ov ← eval o X.env
      standAt apos.atName
      let (f, first) ← holding [ov] (getMethod ov m pl)
      callWith pos f first (backTo pos (starEach [] X.env)) (backToKw pos (keywordEach [] X.env))) := by rfl) :
    PE X (.Call (.Attribute o m apos) [] [] pos) (tMeth C m sp dvs E ta tNil) := by
  obtain ⟨f, fd, ps, ds, hc, hm, F, b, d⟩ := c.ex
  exact g_pe_meth0 (pl := pl) he hc hm F (hr.mono hk) b d hx ht
end
section
open PySem PySem.W PySem.Calls PyProof.Rows
set_option maxRecDepth 100000 in
open PySem PySem.Spec PyProof.Rows L2 in
set_option maxHeartbeats 0 in
theorem early (S : PySem.W.Frag → Sp) (ask : ∀ (K : PySem.W.Frag), YHd.ex K = true → ∀ (H : L2.Hp) (a : Addr) (ns : List Int), ns.length ≤ 63 → Only H → L2.SqL K H a (ns.map L2.V.int) → S K [.ref a] H (fun v _ => v = .bl true) fun _ _ _ => False)
    (facts : ∀ {P : Program} {w : World} {K : PySem.W.Frag} {h : Heap} {mg : PySem.Str → Option Value} {f : Addr}, K.In h → h.Ns mainGlobals mg → mg ("law" : PySem.Str) = some (.ref f) → He.SaysD YHd.fa YHd.fn K → ∃ fd : FuncData, (∀ (s : Shared) (v : Value), BindsTo s fd ⟨[v], []⟩ [("_law_script", v)]) ∧ ∀ base : Heap, K.In base → base.Ns mainGlobals mg → FnG P w K mg base L2.CX0 8 f fd ["_law_script"] (S K)) : PySem.Challenge.rw_stayprice_k67_unlike_stays_told.Holds := by
  w_on; o_law
  refine HandSHeadRun.head_any (r := OpenLaw.row PySem.Challenge.rw_stayprice_k67_unlike_stays_told) (q := view (OpenLaw.row PySem.Challenge.rw_stayprice_k67_unlike_stays_told).prog [60]) (H := YHd.hk) (ob := YHd.ob) (M := 6000) (loose := YHd.loose) (d := HandSHeadRun.topDef (OpenLaw.row PySem.Challenge.rw_stayprice_k67_unlike_stays_told).prog 60) (kwd := []) YHd.ob_eq
    (by kernel_rfl) (fun s => by kernel_rfl) YHd.run (by kernel_rfl) (by kernel_rfl) (by kernel_rfl) (by rfl) (by first | assumption | decide +kernel) (by decide +kernel) ⟨rfl, rfl, rfl, rfl, rfl, by decide +kernel⟩ ?hw ?hc
  case hw => w_witness2
  case hc =>
    refine Y.g_walk (l := PySem.Challenge.rw_stayprice_k67_unlike_stays_told) (n := 63) (k := 8) (x := "_law_script") (CX := L2.CX0) rfl (by decide) (by kernel_rfl) ⟨rfl, by decide, by decide⟩ ?F (fun _ _ _ _ z => z)
    intro w mg fa h Y G hmg0
    obtain ⟨K, KX, c⟩ := Y
    have hmg : mg ("law" : PySem.Str) = some (.ref fa) := by
      have e : (HandSHeadRun.topDef (OpenLaw.row PySem.Challenge.rw_stayprice_k67_unlike_stays_told).prog 60).name = ("law" : PySem.Str) := by kernel_rfl
      rw [← e]
      exact hmg0
    obtain ⟨fd, hb, hF⟩ := facts (P := (PySem.Challenge.rw_stayprice_k67_unlike_stays_told).prog) (w := w) KX G hmg c.1
    exact ⟨K, fd, S K, KX, hb, fun H a ns hl ho hS => ask K c.2 H a ns hl ho hS, hF⟩
end
/-! YD: data (lists, tuples, numbers, truths, texts, None) and their ==. -/
open PySem PySem.Spec PyProof.Rows L2
mutual
theorem eqv_same : ∀ d : PyData, d.canLay0 = true → PyData.eqv d d = true
  | .none, _ => rfl
  | .bool b, _ => by simp [PyData.eqv]
  | .int i, _ => by simp [PyData.eqv]
  | .str x, _ => by simp [PyData.eqv]
  | .list xs, h => by rw [PyData.eqv]; exact eqv_sameAll xs (by simpa [PyData.canLay0] using h)
  | .tuple xs, h => by rw [PyData.eqv]; exact eqv_sameAll xs (by simpa [PyData.canLay0] using h)
  | .dict _, h => by simp [PyData.canLay0] at h
theorem eqv_sameAll : ∀ xs : List PyData, PyData.canLayAll0 xs = true → PyData.eqvAll xs xs = true
  | [], _ => rfl
  | x :: xs, h => by
    have h' : x.canLay0 = true ∧ PyData.canLayAll0 xs = true := by simpa [PyData.canLayAll0] using h
    rw [PyData.eqvAll, eqv_same x h'.1, eqv_sameAll xs h'.2]; rfl
end
theorem shaped_of {d : PyData} (h : d.canLay0 = true) (k : d.depth ≤ 64) : SeqAt.shaped d = true := by
  unfold SeqAt.shaped
  rw [h, decide_eq_true k]; rfl
theorem canLay_all {xs : List PyData} (h : ∀ x ∈ xs, x.canLay0 = true) : PyData.canLayAll0 xs = true := by
  induction xs with
  | nil => rfl
  | cons x r ih => rw [PyData.canLayAll0, h x (by simp), ih fun y hy => h y (by simp [hy])]; rfl
theorem depth_all {xs : List PyData} {n : Nat} (h : ∀ x ∈ xs, x.depth ≤ n) : PyData.depthAll xs ≤ n := by
  induction xs with
  | nil => exact Nat.zero_le _
  | cons x r ih =>
    rw [PyData.depthAll]
    exact Nat.max_le.mpr ⟨h x (by simp), ih fun y hy => h y (by simp [hy])⟩
/-- data that stand at most so deep -/
def Sh (n : Nat) (d : PyData) : Prop := d.canLay0 = true ∧ d.depth ≤ n
theorem Sh.ok {n : Nat} {d : PyData} (h : Sh n d) (k : n ≤ 64) : SeqAt.shaped d = true := shaped_of h.1 (Nat.le_trans h.2 k)
theorem sh_int (i : Int) (n : Nat) : Sh n (.int i) := ⟨by simp [PyData.canLay0], by simp [PyData.depth]⟩
theorem sh_bl (b : Bool) (n : Nat) : Sh n (.bool b) := ⟨by simp [PyData.canLay0], by simp [PyData.depth]⟩
theorem sh_non (n : Nat) : Sh n .none := ⟨by simp [PyData.canLay0], by simp [PyData.depth]⟩
theorem sh_str {x : Str} (h : PyData.strOk x = true) (n : Nat) : Sh n (.str x) := ⟨by simpa [PyData.canLay0] using h, by simp [PyData.depth]⟩
theorem sh_lst {n : Nat} {xs : List PyData} (h : ∀ x ∈ xs, Sh n x) : Sh (n + 1) (.list xs) :=
  ⟨by rw [PyData.canLay0]; exact canLay_all fun x hx => (h x hx).1, by rw [PyData.depth]; exact Nat.succ_le_succ (depth_all fun x hx => (h x hx).2)⟩
theorem sh_tup {n : Nat} {xs : List PyData} (h : ∀ x ∈ xs, Sh n x) : Sh (n + 1) (.tuple xs) :=
  ⟨by rw [PyData.canLay0]; exact canLay_all fun x hx => (h x hx).1, by rw [PyData.depth]; exact Nat.succ_le_succ (depth_all fun x hx => (h x hx).2)⟩
/-! ### lists of whole numbers, of truths -/
theorem eqv_ints : ∀ ns ms : List Int, PyData.eqvAll (ns.map PyData.int) (ms.map PyData.int) = decide (ns = ms)
  | [], [] => rfl
  | [], m :: ms => by simp [PyData.eqvAll]
  | n :: ns, [] => by simp [PyData.eqvAll]
  | n :: ns, m :: ms => by
    rw [List.map_cons, List.map_cons, PyData.eqvAll, eqv_ints ns ms, PyData.eqv]
    by_cases h : n = m <;> simp [h]
section
variable {K : PySem.W.Frag} {H : Hp} {Q : VK} {p q : Addr} {ns ms : List Int} {x y : V} {d e : PyData} {n : Nat}
theorem g_neD_same (h : Dp K H x d) (h' : Dp K H y d) (s : Sh n d) (hn : n ≤ 64) (k : Q (.bl false) H) : rNeD K x y H Q :=
  ⟨d, d, h, h', s.ok hn, s.ok hn, by rw [eqv_same d s.1]; exact k⟩
end
/-- the days from c to ahead of g -/
def days (c g : Int) : List Int := (List.range (g - c).toNat).map fun i : Nat => c + (i : Int)
theorem rgV_days (c g : Int) : rgV c g = (days c g).map V.int := by
  unfold rgV days
  rw [List.map_map]
  rfl
theorem days_len (c g : Int) : (days c g).length = (g - c).toNat := by unfold days; rw [List.length_map, List.length_range]
theorem days_get {c g : Int} {i : Nat} (h : (i : Int) < g - c) : (days c g)[i]? = some (c + (i : Int)) := by
  unfold days
  rw [List.getElem?_map, List.getElem?_range (by omega)]
  rfl
/-! YM: lists of stretches, their days, the one rising list of few stretches. -/
open PySem
abbrev Pr : Type := Int × Int
def hasD (ts : List Pr) (d : Int) : Bool := ts.any fun p => decide (p.1 ≤ d) && decide (d ≤ p.2)
/-- each is none of the wrong way round -/
def Up (ts : List Pr) : Prop := ∀ p ∈ ts, p.1 ≤ p.2
/-- rising, a day between each two -/
structure Can (ts : List Pr) : Prop where
  up : Up ts
  gap : ts.Pairwise fun p q => p.2 + 1 < q.1
/-- one turn of the spreading: the last stretch ahead is made longer, or a new one is laid -/
def sprTurn (F : List Pr) (p : Pr) : List Pr := match F.getLast? with
  | some l => if p.1 ≤ l.2 + 1 then F.dropLast ++ [(l.1, max l.2 p.2)] else F ++ [p]
  | none => [p]
/-- what holds between the turns: F is rising, each of its stretches begins no later than what comes -/
structure SprIn (F : List Pr) (seen : List Pr) : Prop where
  can : Can F
  days : ∀ d, hasD F d = hasD seen d
  low : ∀ q ∈ F, ∃ r ∈ seen, q.1 = r.1
/-- what one stretch lacks of another -/
def wo (p q : Pr) : List Pr := (if p.1 < q.1 then [(p.1, min p.2 (q.1 - 1))] else []) ++ if q.2 < p.2 then [(max p.1 (q.2 + 1), p.2)] else []
def OkD (p : Pr) : Prop := 0 ≤ p.1 ∧ p.1 ≤ p.2 ∧ p.2 ≤ 1000000
/-! YT: the law's tape in the heap; tuples that stay. -/
open PySem PySem.Spec PyProof.Rows L2
/-- a row of draws at t: a great number's rest, a stream's last number (the places b and s are t) -/
def Tape (H : Hp) (t b s : Addr) : Prop := t = b ∧ t = s ∧ ∃ a c : Int, H t = some (.lst [.int a, .int c]) ∧ 0 ≤ a ∧ 0 ≤ c ∧ c < 2147483648
theorem tape_lst {H : Hp} {t b s : Addr} (T : Tape H t b s) : (∃ xs, H t = some (.lst xs)) ∧ ∃ xs, H b = some (.lst xs) := by
  obtain ⟨rfl, rfl, a, c, h, -⟩ := T
  exact ⟨⟨_, h⟩, ⟨_, h⟩⟩
theorem log9 {m : Int} (h0 : 0 < m) (h : m < 2 ^ 250) : m.natAbs.log2 < 9000 :=
  Nat.lt_trans (PySem.Flt.log2_lt_of (k := 250) (by decide) (by
    have e : (m.natAbs : Int) = m := by omega
    have h2 : (m.natAbs : Int) < ((2 ^ 250 : Nat) : Int) := by rw [e]; exact h
    exact Int.ofNat_lt.mp h2)) (by decide)
theorem ni_tape {H : Hp} {t b s p : Addr} (hp : Fr H p) (T : Tape H t b s) : p ∉ [t, b] := by
  replace hp : H p = none := hp
  obtain ⟨⟨_, h1⟩, _, h2⟩ := tape_lst T
  intro h
  rcases List.mem_cons.mp h with e | h
  · rw [e, h1] at hp; cases hp
  · rw [List.mem_singleton.mp h, h2] at hp; cases hp
theorem tape_same {H H' : Hp} {t b s : Addr} (e : Same H H') (T : Tape H t b s) : Tape H' t b s := by
  obtain ⟨n1, n2, a, c, h, z⟩ := T
  exact ⟨n1, n2, a, c, e _ _ h, z⟩
theorem tape_new {H : Hp} {t b s p : Addr} {o : HO} (hp : Fr H p) (T : Tape H t b s) : Tape (upd H p o) t b s := tape_same (same_new hp) T
theorem tape_own {H H0 : Hp} {t b s p : Addr} {o : HO} (hp : Fr H0 p) (T0 : Tape H0 t b s) (T : Tape H t b s) : Tape (upd H p o) t b s := by
  obtain ⟨n1, n2, a, c, h, z⟩ := T
  obtain ⟨_, _, _, _, k, _⟩ := T0
  exact ⟨n1, n2, a, c, at_ne (ne_of_none k hp) h, z⟩
/-- the tuples stay -/
def Tk (H H' : Hp) : Prop := ∀ a xs, H a = some (.tup xs) → H' a = some (.tup xs)
theorem Tk.trans {H H1 H2 : Hp} (a : Tk H H1) (b : Tk H1 H2) : Tk H H2 := fun c xs h => b c xs (a c xs h)
theorem Same.tk {H H' : Hp} (e : Same H H') : Tk H H' := fun a xs h => e _ _ h
theorem tk_new {H : Hp} {p : Addr} {o : HO} (h : Fr H p) : Tk H (upd H p o) := Same.tk (same_new h)
theorem tk_put {H : Hp} {p : Addr} {o : HO} {zs : List V} (h : H p = some (.lst zs)) : Tk H (upd H p o) := fun a xs e => at_ne (fun z => by rw [z, h] at e; cases e) e
theorem tk_kp {H H' : Hp} {t b s : Addr} (T : Tape H t b s) (k : Kp [t, b] H H') : Tk H H' := fun a xs e => k a _ e fun m => by
  obtain ⟨⟨_, h1⟩, _, h2⟩ := tape_lst T
  rcases List.mem_cons.mp m with z | m
  · rw [z, h1] at e; cases e
  · rw [List.mem_singleton.mp m, h2] at e; cases e
theorem at_tk {H H' : Hp} {t b s a : Addr} {xs : List V} (k : Kp [t, b] H H') (T : Tape H t b s) (h : H a = some (.tup xs)) : H' a = some (.tup xs) := tk_kp T k a xs h
theorem g_pk2 {K : PySem.W.Frag} {H : Hp} {Q : VK} {p : Addr} {xs : List V} {a b w : Int} (h : H p = some (.lst xs)) (hxs : xs = [.int a, .int b]) (h0 : 0 ≤ w) (h1 : w < 2) (q : ∀ v : Int, v = a ∨ v = b → Q (.int v) H) : rIxL K (.ref p) (.int w) H Q := by
  subst hxs
  exact g_pick2 (SqL.of h) h0 h1 q
theorem g_pk4 {K : PySem.W.Frag} {H : Hp} {Q : VK} {p : Addr} {xs : List V} {a b c d w : Int} (h : H p = some (.lst xs)) (hxs : xs = [.int a, .int b, .int c, .int d]) (h0 : 0 ≤ w) (h1 : w < 4) (q : ∀ v : Int, v = a ∨ v = b ∨ v = c ∨ v = d → Q (.int v) H) : rIxL K (.ref p) (.int w) H Q := by
  subst hxs
  exact g_pick4 (SqL.of h) h0 h1 q
theorem g_pk5 {K : PySem.W.Frag} {H : Hp} {Q : VK} {p : Addr} {xs : List V} {a b c d e w : Int} (h : H p = some (.lst xs)) (hxs : xs = [.int a, .int b, .int c, .int d, .int e]) (h0 : 0 ≤ w) (h1 : w < 5) (q : ∀ v : Int, v = a ∨ v = b ∨ v = c ∨ v = d ∨ v = e → Q (.int v) H) : rIxL K (.ref p) (.int w) H Q := by
  subst hxs
  exact g_pick5 (SqL.of h) h0 h1 q
/-! YP: pairs of whole numbers in the heap; comprehensions that make nothing but their list. -/
open PySem PySem.Spec PyProof.Rows L2
/-- v is a tuple of the pair p -/
def PrAt (G : Hp) (v : V) (p : Pr) : Prop := ∃ t, v = .ref t ∧ G t = some (.tup [.int p.1, .int p.2])
abbrev PrsAt (G : Hp) : List V → List Pr → Prop := Paired (PrAt G)
theorem Paired.app {α β : Type} {F : α → β → Prop} : ∀ {as : List α} {bs : List β} {cs : List α} {ds : List β}, Paired F as bs → Paired F cs ds → Paired F (as ++ cs) (bs ++ ds)
  | _, _, _, _, .nil, h => h
  | _, _, _, _, .cons r t, h => .cons r (Paired.app t h)
theorem Paired.snoc {α β : Type} {F : α → β → Prop} {as : List α} {bs : List β} {a : α} {b : β} (h : Paired F as bs) (r : F a b) : Paired F (as ++ [a]) (bs ++ [b]) := Paired.app h (.cons r .nil)
theorem Paired.getL {α β : Type} {F : α → β → Prop} : ∀ {as : List α} {bs : List β} {i : Nat} {a : α}, Paired F as bs → as[i]? = some a → ∃ b, bs[i]? = some b ∧ F a b
  | _, _, _, _, .nil, e => by simp at e
  | _, _, 0, _, .cons r _, e => by simp at e; subst e; exact ⟨_, rfl, r⟩
  | _, _, i + 1, a, .cons r t, e => by
    obtain ⟨b, h1, h2⟩ := Paired.getL (i := i) t (by simpa using e)
    exact ⟨b, by simpa using h1, h2⟩
theorem Paired.getR {α β : Type} {F : α → β → Prop} : ∀ {as : List α} {bs : List β} {i : Nat} {b : β}, Paired F as bs → bs[i]? = some b → ∃ a, as[i]? = some a ∧ F a b
  | _, _, _, _, .nil, e => by simp at e
  | _, _, 0, _, .cons r _, e => by simp at e; subst e; exact ⟨_, rfl, r⟩
  | _, _, i + 1, b, .cons r t, e => by
    obtain ⟨a, h1, h2⟩ := Paired.getR (i := i) t (by simpa using e)
    exact ⟨a, by simpa using h1, h2⟩
/-- the pair that stands at a value -/
def kOf (G : Hp) : V → Pr
  | .ref t => match G t with
    | some (.tup [.int i, .int j]) => (i, j)
    | _ => (0, 0)
  | _ => (0, 0)
theorem kOf_at {G : Hp} {v : V} {p : Pr} (h : PrAt G v p) : kOf G v = p := by
  obtain ⟨t, rfl, e⟩ := h
  simp only [kOf, e]
theorem prs_map {G : Hp} : ∀ {xs : List V} {ts : List Pr}, PrsAt G xs ts → ts = xs.map (kOf G)
  | _, _, .nil => rfl
  | _, _, .cons r t => by rw [List.map_cons, kOf_at r, ← prs_map t]
theorem prs_mem {G : Hp} {xs : List V} {ts : List Pr} (h : PrsAt G xs ts) {x : V} (hx : x ∈ xs) : PrAt G x (kOf G x) := by
  obtain ⟨i, hi, e⟩ := List.mem_iff_getElem.mp hx
  obtain ⟨b, _, q⟩ := Paired.getL h (List.getElem?_eq_some_iff.mpr ⟨hi, e⟩)
  rw [kOf_at q]
  exact q
theorem prs_of {G : Hp} : ∀ {xs : List V}, (∀ x ∈ xs, PrAt G x (kOf G x)) → PrsAt G xs (xs.map (kOf G))
  | [], _ => .nil
  | x :: xs, h => .cons (h x (by simp)) (prs_of fun y hy => h y (by simp [hy]))
theorem pr_tk {G G' : Hp} {v : V} {p : Pr} (e : Tk G G') (h : PrAt G v p) : PrAt G' v p := let ⟨t, a, b⟩ := h; ⟨t, a, e _ _ b⟩
theorem prs_tk {G G' : Hp} {xs : List V} {ts : List Pr} (e : Tk G G') (h : PrsAt G xs ts) : PrsAt G' xs ts := Paired.mapP h fun _ _ q => pr_tk e q
theorem prs_new {H : Hp} {xs : List V} {ts : List Pr} {p : Addr} {o : HO} (hp : Fr H p) (h : PrsAt H xs ts) : PrsAt (upd H p o) xs ts := prs_tk (tk_new hp) h
theorem prs_put {H : Hp} {xs zs : List V} {ts : List Pr} {p : Addr} {o : HO} (hp : H p = some (.lst zs)) (h : PrsAt H xs ts) : PrsAt (upd H p o) xs ts := prs_tk (tk_put hp) h
/-! ### as data -/
def prD (p : Pr) : PyData := .tuple [.int p.1, .int p.2]
section
variable {K : PySem.W.Frag} {H : Hp} {Q : VK} {p q : Addr} {xs ys : List V} {ts us : List Pr}
end
/-- sorted, of pairs -/
theorem g_sortedP {K : PySem.W.Frag} {H : Hp} {Q : VK} {a : Addr} {xs : List V} {ts : List Pr} (h : SqL K H a xs) (hp : PrsAt H xs ts)
    (q : ∀ (p : Addr) (ys : List V) (us : List Pr), Fr H p → PrsAt H ys us → us.Perm ts → (us.Pairwise fun p q => p.1 < q.1 ∨ (p.1 = q.1 ∧ p.2 ≤ q.2)) → Q (.ref p) (upd H p (.lst ys))) : rSortedPO K [.ref a] H Q :=
  ⟨a, xs, kOf H, rfl, h, fun x hx => prs_mem hp hx, fun ys p hs hb hn => q p ys (ys.map (kOf H)) hn (prs_of fun x hx => prs_mem hp (hb.perm.mem_iff.mp hx)) (by rw [prs_map hp]; exact hb.perm.map _)
    (List.pairwise_map.mpr (hs.imp fun {x y} e => by
      have e' := SrtO.lexB_no.mp (show SrtO.lexB (kOf H y) (kOf H x) = false from e)
      omega))⟩
theorem jn {t u : TS} {D : Ends} {σ : L2.St} {H : Hp} (P : L2.St → Hp → Prop) (k : ∀ σ H, P σ H → u D σ H) (h : ∀ N : L2.St → Hp → Prop, (∀ σ H, P σ H → N σ H) → t { D with nx := N } σ H) : tSeq t u D σ H := h (u D) k
theorem mxi (i j : Int) : (if j > i then j else i) = max i j := by
  split <;> omega
theorem mni (i j : Int) : (if j < i then j else i) = min i j := by
  split <;> omega
/-! ### comprehensions that make nothing but their list -/
/-! ### comprehensions whose parts may make new things -/
theorem lc_w {J : It} {n : Nat} {G : Hp → Prop} {Y : Nat → Hp → V → Hp → Prop} (w : Walk J n G Y) {g : TG} {tt : TT} {te : TE} {vs : List Nat} {σ : L2.St} {H1 : Hp} {Qf : Addr → Hp → Prop} (f : Nat → Option V) (hn : n < 100000) (hG : ∀ H, Same H1 H → G H)
    (hs : ∀ (D : Addr) i x H H' (N : Hp → Prop), Fr H1 D → i < n → Same H1 H → Y i H x H' → (∀ y H4, f i = some y → Same H H4 → ∃ acc, H4 D = some (.lst acc) ∧ acc.length < sizeLine ∧ N (upd H4 D (.lst (acc ++ [y])))) → (∀ H4, f i = none → Same H H4 → N H4) →
      g x (wipe σ vs) H' fun σ2 H2 => wipe σ2 vs = wipe σ vs ∧ tt σ2 H2 fun b H3 =>
        if b = true then te σ2 H3 fun y H4 => ∃ acc, H4 D = some (.lst acc) ∧ acc.length < sizeLine ∧ N (upd H4 D (.lst (acc ++ [y]))) else N H3)
    (hd : ∀ D H', Fr H1 D → Same H1 H' → H' D = some (.lst ((List.range n).filterMap f)) → Qf D H') :
    ∀ D, Fr H1 D → ∃ W : Nat → Nat → Hp → Prop, (∃ m, W 0 m (upd H1 D (.lst []))) ∧ ∀ i m H, W i m H →
      (J.stop i H ∧ Qf D H) ∨ (J.go i H ∧ ∃ Nx : Hp → Prop, (∀ H', Nx H' → ∃ m', m' < m ∧ W (i + 1) m' H') ∧ ∀ x H', J.yld i H x H' → g x (wipe σ vs) H' fun σ2 H2 => wipe σ2 vs = wipe σ vs ∧ tt σ2 H2 fun b H3 =>
        if b = true then te σ2 H3 fun y H4 => ∃ acc, H4 D = some (.lst acc) ∧ acc.length < sizeLine ∧ Nx (upd H4 D (.lst (acc ++ [y]))) else Nx H3) := fun D hD => by
  refine lc_it w (fun i H => Same H1 H ∧ H D = some (.lst ((List.range i).filterMap f))) ⟨same_new hD, upd_same⟩ (fun i H _ h => hG H h.1) (fun i x H H' hi h y => ?_) fun H h => hd D H hD h.1 h.2
  have hlen : ((List.range i).filterMap f).length ≤ i := Nat.le_trans (List.length_filterMap_le ..) (by rw [List.length_range]; omega)
  refine hs D i x H H' _ hD hi h.1 y (fun y H4 hy s => ⟨_, s _ _ h.2, by rw [sizeLine_eq]; omega, sm_own hD (h.1.trans s), ?_⟩) fun H4 hy s => ⟨h.1.trans s, ?_⟩
  · rw [upd_same, List.range_succ, List.filterMap_append]
    simp [hy]
  · rw [s _ _ h.2, List.range_succ, List.filterMap_append]
    simp [hy]
theorem range_flt' {α β : Type} (xs : List α) (g : α → Option β) (n : Nat) : (List.range n).filterMap (fun i => (xs[i]?).bind g) = (xs.take n).filterMap g := by
  induction n with
  | zero => simp
  | succ n ih =>
    rw [List.range_succ, List.filterMap_append, ih, List.take_add_one, List.filterMap_append]
    congr 1
    cases e : xs[n]? with
    | none => simp [e]
    | some x => cases e2 : g x <;> simp [e, e2]
theorem range_flt {α β : Type} (xs : List α) (g : α → Option β) : (List.range xs.length).filterMap (fun i => (xs[i]?).bind g) = xs.filterMap g := by
  rw [range_flt', List.take_length]
/-- comprehensions whose items are new tuples, numbers, texts: R stays while the tuples stay -/
theorem lc_r {J : It} {n : Nat} {G : Hp → Prop} {Y : Nat → Hp → V → Hp → Prop} (w : Walk J n G Y) {g : TG} {tt : TT} {te : TE} {vs : List Nat} {σ : L2.St} {H1 : Hp} {Qf : Addr → Hp → Prop} {β : Type} (R : Hp → V → β → Prop) (hR : ∀ G G' v b, Tk G G' → R G v b → R G' v b) (f : Nat → Option β) (hn : n < 100000) (hG : ∀ H, Same H1 H → G H)
    (hs : ∀ (D : Addr) i x H H' (N : Hp → Prop), Fr H1 D → i < n → Same H1 H → Y i H x H' → (∀ y b H4, f i = some b → Same H H4 → R H4 y b → ∃ acc, H4 D = some (.lst acc) ∧ acc.length < sizeLine ∧ N (upd H4 D (.lst (acc ++ [y])))) → (∀ H4, f i = none → Same H H4 → N H4) →
      g x (wipe σ vs) H' fun σ2 H2 => wipe σ2 vs = wipe σ vs ∧ tt σ2 H2 fun b H3 =>
        if b = true then te σ2 H3 fun y H4 => ∃ acc, H4 D = some (.lst acc) ∧ acc.length < sizeLine ∧ N (upd H4 D (.lst (acc ++ [y]))) else N H3)
    (hd : ∀ D H' ys, Fr H1 D → Same H1 H' → H' D = some (.lst ys) → Paired (R H') ys ((List.range n).filterMap f) → Qf D H') :
    ∀ D, Fr H1 D → ∃ W : Nat → Nat → Hp → Prop, (∃ m, W 0 m (upd H1 D (.lst []))) ∧ ∀ i m H, W i m H →
      (J.stop i H ∧ Qf D H) ∨ (J.go i H ∧ ∃ Nx : Hp → Prop, (∀ H', Nx H' → ∃ m', m' < m ∧ W (i + 1) m' H') ∧ ∀ x H', J.yld i H x H' → g x (wipe σ vs) H' fun σ2 H2 => wipe σ2 vs = wipe σ vs ∧ tt σ2 H2 fun b H3 =>
        if b = true then te σ2 H3 fun y H4 => ∃ acc, H4 D = some (.lst acc) ∧ acc.length < sizeLine ∧ Nx (upd H4 D (.lst (acc ++ [y]))) else Nx H3) := fun D hD => by
  refine lc_it w (fun i H => Same H1 H ∧ ∃ acc, H D = some (.lst acc) ∧ Paired (R H) acc ((List.range i).filterMap f)) ⟨same_new hD, [], upd_same, .nil⟩ (fun i H _ h => hG H h.1) (fun i x H H' hi ⟨sm, acc, ha, hp⟩ y => ?_) fun H ⟨sm, acc, ha, hp⟩ => hd D H acc hD sm ha hp
  have hlen : acc.length ≤ i := by
    rw [Paired.length hp]
    exact Nat.le_trans (List.length_filterMap_le ..) (by rw [List.length_range]; omega)
  refine hs D i x H H' _ hD hi sm y (fun y b H4 hb s r => ⟨acc, s _ _ ha, by rw [sizeLine_eq]; omega, sm_own hD (sm.trans s), acc ++ [y], upd_same, ?_⟩) fun H4 hb s => ⟨sm.trans s, acc, s _ _ ha, ?_⟩
  · have tk : Tk H4 (upd H4 D (.lst (acc ++ [y]))) := tk_put (s _ _ ha)
    rw [List.range_succ, List.filterMap_append]
    refine Paired.app (Paired.mapP hp fun _ _ q => hR _ _ _ _ ((Same.tk s).trans tk) q) ?_
    simp only [List.filterMap_cons, hb, List.filterMap_nil]
    exact .cons (hR _ _ _ _ tk r) .nil
  · rw [List.range_succ, List.filterMap_append]
    simp only [List.filterMap_cons, hb, List.filterMap_nil, List.append_nil]
    exact Paired.mapP hp fun _ _ q => hR _ _ _ _ (Same.tk s) q
theorem Paired.take {α β : Type} {F : α → β → Prop} : ∀ (n : Nat) {as : List α} {bs : List β}, Paired F as bs → Paired F (as.take n) (bs.take n)
  | 0, _, _, _ => .nil
  | n + 1, _, _, .nil => .nil
  | n + 1, _, _, .cons r t => .cons r (Paired.take n t)
theorem Paired.drop {α β : Type} {F : α → β → Prop} : ∀ (n : Nat) {as : List α} {bs : List β}, Paired F as bs → Paired F (as.drop n) (bs.drop n)
  | 0, _, _, h => h
  | n + 1, _, _, .nil => .nil
  | n + 1, _, _, .cons r t => Paired.drop n t
/-! Y1 (second family): a row of draws, its draws. -/
open PySem PySem.Spec PyProof.Rows L2
def sp_Ltake (K : PySem.W.Frag) : Sp := Sp2 fun x y H Q E => ∃ (t b s : Addr) (m : Int), x = .ref t ∧ y = .int m ∧ Tape H t b s ∧ 0 < m ∧ m.natAbs.log2 < 9000 ∧
  ∀ (v : Int) (H' : Hp), 0 ≤ v → v < m → Tape H' t b s → Kp [t, b] H H' → Q (.int v) H'
theorem g_take {K : PySem.W.Frag} {t b s : Addr} {m : Int} {H : Hp} {Q : VK} {E : XK} (T : Tape H t b s) (h0 : 0 < m) (h9 : m < 2 ^ 250) (q : ∀ (v : Int) (H' : Hp), 0 ≤ v → v < m → Tape H' t b s → Kp [t, b] H H' → Q (.int v) H') : sp_Ltake K ([.ref t, .int m] ++ []) H Q E :=
  ⟨_, _, rfl, t, b, s, m, rfl, rfl, T, h0, log9 h0 h9, q⟩
def sp_Lbegin (K : PySem.W.Frag) : Sp := Sp1 fun x H Q E => ∃ c : Int, x = .int c ∧ ∀ (t : Addr) (H' : Hp), Same H H' → Fr H t → Tape H' t t t → Q (.ref t) H'
theorem g_begin {K : PySem.W.Frag} {c : Int} {H : Hp} {Q : VK} {E : XK} (q : ∀ (t : Addr) (H' : Hp), Same H H' → Fr H t → Tape H' t t t → Q (.ref t) H') : sp_Lbegin K ([.int c] ++ []) H Q E := ⟨_, rfl, c, rfl, q⟩
def sp_Lcell_at (K : PySem.W.Frag) : Sp := Sp2 fun x y H Q E => ∃ (a : Addr) (ns : List Int) (i : Nat), x = .ref a ∧ y = .int (i : Nat) ∧ SqL K H a (ns.map V.int) ∧ ∀ c : Int, Q (.int c) H
/-! steps: a heap's facts (at), a list's or tuple's (sq), side questions (sd), one step (s1), many (ss) -/
local macro_rules | `(tactic| walk_at "tp") => `(tactic| first
  | with_reducible assumption
  | ((with_reducible refine' $(Lean.mkIdent `Y.tape_new) ?n0 ?n1); (case n0 => with_reducible assumption); (case n1 => walk_at "tp"))
  | ((with_reducible refine' $(Lean.mkIdent `Y.tape_same) ?n0 ?n1); (case n0 => with_reducible assumption); (case n1 => walk_at "tp"))
  | ((with_reducible refine' $(Lean.mkIdent `Y.tape_own) ?n0 ?n1 ?n2); (case n0 => with_reducible assumption); (case n1 => walk_at "tp"); (case n2 => walk_at "tp"))
  | fail)
local macro_rules | `(tactic| walk_at "ni") => `(tactic| first
  | with_reducible assumption
  | ((with_reducible refine' $(Lean.mkIdent `Y.ni_tape) ?n0 ?n1); (case n0 => with_reducible assumption); (case n1 => walk_at "tp"))
  | fail)
local macro_rules | `(tactic| walk_at "at0") => `(tactic| first
  | with_reducible assumption
  | with_reducible exact upd_same
  | ((with_reducible refine' $(Lean.mkIdent `Y.at_new) ?n0 ?n1); (case n0 => with_reducible assumption); (case n1 => walk_at "at0"))
  | ((with_reducible refine' $(Lean.mkIdent `Y.get_same) ?n0 ?n1); (case n0 => with_reducible assumption); (case n1 => walk_at "at0"))
  | ((with_reducible refine' $(Lean.mkIdent `Y.get_kp) ?n0 ?n1 ?n2); (case n0 => with_reducible assumption); (case n1 => walk_at "at0"); (case n2 => walk_at "ni"))
  | fail)
local macro_rules | `(tactic| walk_at "ne") => `(tactic| first
  | assumption
  | exact Ne.symm (by assumption)
  | ((with_reducible refine' $(Lean.mkIdent `Y.ne_new') ?n0 ?n1); (case n0 => with_reducible assumption); (case n1 => walk_at "at"))
  | fail)
local macro_rules | `(tactic| walk_at "sm") => `(tactic| first
  | with_reducible assumption
  | with_reducible exact Same.refl _
  | ((with_reducible refine' $(Lean.mkIdent `Y.sm_new) ?n0 ?n1); (case n0 => with_reducible assumption); (case n1 => walk_at "sm"))
  | ((with_reducible refine' $(Lean.mkIdent `Y.sm_own) ?n0 ?n1); (case n0 => with_reducible assumption); (case n1 => walk_at "sm"))
  | ((with_reducible refine' $(Lean.mkIdent `Y.sm_tr) ?n0 ?n1); (case n0 => with_reducible assumption); (case n1 => walk_at "sm"))
  | fail)
local macro_rules | `(tactic| walk_at "kp") => `(tactic| first
  | with_reducible assumption
  | with_reducible exact $(Lean.mkIdent `Y.Kp.refl) _ _
  | ((with_reducible refine' $(Lean.mkIdent `Y.kp_own) ?n0 ?n1); (case n0 => with_reducible assumption); (case n1 => walk_at "kp"))
  | ((with_reducible refine' $(Lean.mkIdent `Y.kp_new) ?n0 ?n1); (case n0 => with_reducible assumption); (case n1 => walk_at "kp"))
  | ((with_reducible refine' $(Lean.mkIdent `Y.kp_tr) ?n0 ?n1); (case n0 => with_reducible assumption); (case n1 => walk_at "kp"))
  | fail)
local macro_rules | `(tactic| walk_at "fr") => `(tactic| first
  | with_reducible assumption
  | ((with_reducible refine' $(Lean.mkIdent `Y.fr_new) ?n0); (case n0 => with_reducible assumption))
  | ((with_reducible refine' $(Lean.mkIdent `Y.fr_of) ?n0 ?n1); (case n0 => with_reducible assumption); (case n1 => walk_at "sm"))
  | fail)
local macro_rules | `(tactic| walk_at "at") => `(tactic| first
  | with_reducible assumption
  | with_reducible exact upd_same
  | ((with_reducible refine' $(Lean.mkIdent `Y.at_new) ?n0 ?n1); (case n0 => with_reducible assumption); (case n1 => walk_at "at"))
  | ((with_reducible refine' $(Lean.mkIdent `Y.at_ne) ?n0 ?n1); (case n0 => walk_at "ne"); (case n1 => walk_at "at"))
  | ((with_reducible refine' $(Lean.mkIdent `Y.get_same) ?n0 ?n1); (case n0 => with_reducible assumption); (case n1 => walk_at "at"))
  | ((with_reducible refine' $(Lean.mkIdent `Y.get_kp) ?n0 ?n1 ?n2); (case n0 => with_reducible assumption); (case n1 => walk_at "at"); (case n2 => walk_at "ni"))
  | ((with_reducible refine' $(Lean.mkIdent `Y.at_tk) ?n0 ?n1 ?n2); (case n0 => with_reducible assumption); (case n1 => walk_at "tp"); (case n2 => walk_at "at"))
  | fail)
local macro_rules | `(tactic| walk_at "tk") => `(tactic| first
  | with_reducible assumption
  | with_reducible exact $(Lean.mkIdent `Y.Tk.refl) _
  | fail)
local macro_rules | `(tactic| walk_at "pr") => `(tactic| first
  | with_reducible assumption
  | fail)
local macro_rules | `(tactic| walk_at "prs") => `(tactic| first
  | with_reducible assumption
  | ((with_reducible refine' $(Lean.mkIdent `Y.prs_new) ?n0 ?n1); (case n0 => with_reducible assumption); (case n1 => walk_at "prs"))
  | ((with_reducible refine' $(Lean.mkIdent `Y.prs_put) ?n0 ?n1); (case n0 => walk_at "at"); (case n1 => walk_at "prs"))
  | fail)
local macro_rules | `(tactic| walk_at "ad") => `(tactic| first
  | with_reducible assumption
  | with_reducible exact $(Lean.mkIdent `Y.At.int) _
  | with_reducible exact $(Lean.mkIdent `Y.At.str) _
  | with_reducible exact $(Lean.mkIdent `Y.At.bl) _
  | with_reducible exact $(Lean.mkIdent `Y.At.non)
  | ((with_reducible refine' $(Lean.mkIdent `Y.Td.at0) ?n0); (case n0 => walk_at "td"))
  | ((with_reducible refine' $(Lean.mkIdent `Y.at_tup0) ?n0 ?n1); (case n0 => walk_at "at"); (case n1 => walk_at "ads"))
  | ((with_reducible refine' $(Lean.mkIdent `Y.at_lst0) ?n0 ?n1); (case n0 => walk_at "at"); (case n1 => walk_at "ads"))
  | ((with_reducible refine' $(Lean.mkIdent `Y.at_new') ?n0 ?n1); (case n0 => with_reducible assumption); (case n1 => walk_at "ad"))
  | ((with_reducible refine' $(Lean.mkIdent `Y.At.same) ?n0 ?n1); (case n0 => with_reducible assumption); (case n1 => walk_at "ad"))
  | fail)
local macro_rules | `(tactic| walk_at "ads") => `(tactic| first
  | with_reducible assumption
  | with_reducible exact $(Lean.mkIdent `Y.Ats.nil)
  | ((with_reducible refine' $(Lean.mkIdent `Y.Ats.cons) ?n0 ?n1); (case n0 => walk_at "ad"); (case n1 => walk_at "ads"))
  | fail)
local macro_rules | `(tactic| walk_at "td") => `(tactic| first
  | with_reducible assumption
  | with_reducible exact $(Lean.mkIdent `Y.Td.int) _
  | with_reducible exact $(Lean.mkIdent `Y.Td.str) _
  | with_reducible exact $(Lean.mkIdent `Y.Td.bl) _
  | with_reducible exact $(Lean.mkIdent `Y.Td.non)
  | ((with_reducible refine' $(Lean.mkIdent `Y.td_tup) ?n0 ?n1); (case n0 => walk_at "at"); (case n1 => walk_at "tds"))
  | ((with_reducible refine' $(Lean.mkIdent `Y.td_new) ?n0 ?n1); (case n0 => with_reducible assumption); (case n1 => walk_at "td"))
  | ((with_reducible refine' $(Lean.mkIdent `Y.td_same) ?n0 ?n1); (case n0 => with_reducible assumption); (case n1 => walk_at "td"))
  | fail)
local macro_rules | `(tactic| walk_at "tds") => `(tactic| first
  | with_reducible assumption
  | with_reducible exact $(Lean.mkIdent `Y.Tds.nil)
  | ((with_reducible refine' $(Lean.mkIdent `Y.tds_cons) ?n0 ?n1); (case n0 => walk_at "td"); (case n1 => walk_at "tds"))
  | fail)
local macro_rules | `(tactic| walk_at "ins") => `(tactic| first
  | with_reducible assumption
  | ((with_reducible refine' $(Lean.mkIdent `Y.ins_put) ?n0 ?n1); (case n0 => walk_at "at"); (case n1 => walk_at "ins"))
  | fail)
local macro_rules | `(tactic| walk_at "bk") => `(tactic| first
  | with_reducible assumption
  | ((with_reducible refine' $(Lean.mkIdent `Y.bk_same) ?n0 ?n1); (case n0 => with_reducible assumption); (case n1 => walk_at "bk"))
  | fail)
local macro_rules | `(tactic| walk_at "wd") => `(tactic| first
  | with_reducible exact $(Lean.mkIdent `Y.wd_price)
  | with_reducible exact $(Lean.mkIdent `Y.wd_come)
  | with_reducible exact $(Lean.mkIdent `Y.wd_go)
  | with_reducible exact $(Lean.mkIdent `Y.wd_least)
  | with_reducible exact $(Lean.mkIdent `Y.wd_most)
  | with_reducible exact $(Lean.mkIdent `Y.wd_deal)
  | with_reducible exact $(Lean.mkIdent `Y.wd_fee)
  | fail)
local macro_rules | `(tactic| walk_at "rt") => `(tactic| first
  | with_reducible assumption
  | ((with_reducible refine' $(Lean.mkIdent `Y.ru_lit) ?n0 ?n1 ?n2); (case n0 => walk_at "at"); (case n1 => walk_at "wd"); (case n2 => walk_at "td"))
  | fail)
local macro_rules | `(tactic| walk_at "ru") => `(tactic| first
  | with_reducible assumption
  | with_reducible exact $(Lean.mkIdent `Y.ru_nil)
  | ((with_reducible refine' $(Lean.mkIdent `Y.ru_cons) ?n0 ?n1); (case n0 => walk_at "rt"); (case n1 => walk_at "ru"))
  | ((with_reducible refine' $(Lean.mkIdent `Y.ru_app) ?n0 ?n1); (case n0 => walk_at "ru"); (case n1 => walk_at "ru"))
  | ((with_reducible refine' $(Lean.mkIdent `Y.ru_take) ?n0); (case n0 => walk_at "ru"))
  | ((with_reducible refine' $(Lean.mkIdent `Y.ru_drop) ?n0); (case n0 => walk_at "ru"))
  | ((with_reducible refine' $(Lean.mkIdent `Y.ru_new) ?n0 ?n1); (case n0 => with_reducible assumption); (case n1 => walk_at "ru"))
  | ((with_reducible refine' $(Lean.mkIdent `Y.ru_put) ?n0 ?n1); (case n0 => walk_at "at"); (case n1 => walk_at "ru"))
  | ((with_reducible refine' $(Lean.mkIdent `Y.ru_same) ?n0 ?n1); (case n0 => with_reducible assumption); (case n1 => walk_at "ru"))
  | ((with_reducible refine' $(Lean.mkIdent `Y.ru_kp) ?n0 ?n2 ?n1); (case n0 => with_reducible assumption); (case n2 => walk_at "tp"); (case n1 => walk_at "ru"))
  | fail)
local macro_rules | `(tactic| walk_at "gd") => `(tactic| first
  | with_reducible assumption
  | ((with_reducible refine' $(Lean.mkIdent `Y.gd_app) ?n0 ?n1); (case n0 => walk_at "gd"); (case n1 => walk_at "gd"))
  | ((with_reducible refine' $(Lean.mkIdent `Y.gd_take) ?n0); (case n0 => walk_at "gd"))
  | ((with_reducible refine' $(Lean.mkIdent `Y.gd_drop) ?n0); (case n0 => walk_at "gd"))
  | fail)
local macro_rules | `(tactic| walk_at "up") => `(tactic| first
  | with_reducible assumption
  | ((with_reducible refine' $(Lean.mkIdent `Y.Can.up) ?n0); (case n0 => with_reducible assumption))
  | fail)
local macro_rules | `(tactic| walk_at "sq") => `(tactic| first
  | assumption
  | (refine' SqL.of ?n0; (case n0 => walk_at "at"))
  | (refine' SqT.of ?n0; (case n0 => walk_at "at"))
  | ((with_reducible refine' $(Lean.mkIdent `Y.sql_new) ?n0 ?n1); (case n0 => with_reducible assumption); (case n1 => walk_at "sq"))
  | ((with_reducible refine' $(Lean.mkIdent `Y.sql_same) ?n0 ?n1); (case n0 => with_reducible assumption); (case n1 => walk_at "sq"))
  | ((with_reducible refine' $(Lean.mkIdent `Y.sqt_same) ?n0 ?n1); (case n0 => with_reducible assumption); (case n1 => walk_at "sq"))
  | ((with_reducible refine' $(Lean.mkIdent `Y.sq_or) ?n0); (case n0 => walk_at "at"))
  | ((with_reducible refine' $(Lean.mkIdent `Y.sq_orT) ?n0); (case n0 => walk_at "at"))
  | ((with_reducible refine' Or.inl ?n0); (case n0 => walk_at "sq"))
  | ((with_reducible refine' Or.inr ?n0); (case n0 => walk_at "sq"))
  | fail)
local macro_rules | `(tactic| walk_at "dp") => `(tactic| first
  | assumption
  | exact Dp.int _
  | exact Dp.str _
  | exact Dp.bl _
  | exact Dp.non
  | (refine' Dp.tup ?s0 ?a0; (case s0 => walk_at "sq"); (case a0 => walk_at "dpa"))
  | (refine' Dp.lst ?s0 ?a0; (case s0 => walk_at "sq"); (case a0 => walk_at "dpa"))
  | fail)
local macro_rules | `(tactic| walk_at "dpa") => `(tactic| first
  | exact DpAll.nil
  | (refine' DpAll.cons ?a0 ?b0; (case a0 => walk_at "dp"); (case b0 => walk_at "dpa"))
  | fail)
local macro_rules | `(tactic| walk_at "sh") => `(tactic| first
  | assumption
  | exact ⟨by simp [PyData.canLay0, PyData.canLayAll0], by simp [PyData.depth, PyData.depthAll]⟩
  | fail)
local macro_rules | `(tactic| walk_at "sd") => `(tactic| ((try dsimp only); first
  | omega
  | assumption
  | exact rfl
  | decide
  | exact Or.inl ⟨by omega, by omega⟩
  | exact Or.inr ⟨by omega, by omega⟩
  | exact ⟨by first | assumption | omega | decide, by first | assumption | omega | decide⟩
  | exact ⟨by decide, by decide, by decide⟩
  | exact ⟨by omega, $(Lean.mkIdent `Y.log9) (by omega) (by omega)⟩
  | (simp only [List.length_map, List.length_append, List.length_cons, List.length_nil, List.length_singleton, List.length_reverse, List.length_take, List.length_drop, sizeLine_eq]; omega)
  | fail))
local macro_rules | `(tactic| walk_at "sd3") => `(tactic| first
  | assumption
  | exact ⟨by omega, by omega, by omega⟩)
local macro_rules | `(tactic| walk_at "sd4") => `(tactic| first
  | assumption
  | exact ⟨by omega, by omega, by omega, by omega⟩)
local macro_rules | `(tactic| walk_at "rf") => `(tactic| exact rfl)
local macro_rules | `(tactic| walk_at "ai") => `(tactic| first
  | assumption
  | ((with_reducible refine' $(Lean.mkIdent `Y.at_k0) ?r); (case r => exact rfl))
  | ((with_reducible refine' $(Lean.mkIdent `Y.at_k1) ?r); (case r => exact rfl))
  | ((with_reducible refine' $(Lean.mkIdent `Y.at_k2) ?r); (case r => exact rfl))
  | ((with_reducible refine' $(Lean.mkIdent `Y.at_k3) ?r); (case r => exact rfl))
  | ((with_reducible refine' $(Lean.mkIdent `Y.atI_map) ?r); (case r => assumption))
  | ((with_reducible refine' $(Lean.mkIdent `Y.ix_k0) ?r); (case r => walk_at "sd"))
  | ((with_reducible refine' $(Lean.mkIdent `Y.ix_k1) ?r); (case r => walk_at "sd"))
  | fail)
local macro_rules | `(tactic| walk_at "isi") => `(tactic| first
  | (with_reducible refine $(Lean.mkIdent `Y.g_isi_int_int) ?_)
  | (with_reducible refine $(Lean.mkIdent `Y.g_isi_int_bool) ?_)
  | (with_reducible refine $(Lean.mkIdent `Y.g_isi_int_str) ?_)
  | (with_reducible refine $(Lean.mkIdent `Y.g_isi_int_tuple) ?_)
  | (with_reducible refine $(Lean.mkIdent `Y.g_isi_bl_int) ?_)
  | (with_reducible refine $(Lean.mkIdent `Y.g_isi_bl_bool) ?_)
  | (with_reducible refine $(Lean.mkIdent `Y.g_isi_bl_str) ?_)
  | (with_reducible refine $(Lean.mkIdent `Y.g_isi_bl_tuple) ?_)
  | (with_reducible refine $(Lean.mkIdent `Y.g_isi_str_int) ?_)
  | (with_reducible refine $(Lean.mkIdent `Y.g_isi_str_bool) ?_)
  | (with_reducible refine $(Lean.mkIdent `Y.g_isi_str_str) ?_)
  | (with_reducible refine $(Lean.mkIdent `Y.g_isi_str_tuple) ?_)
  | (with_reducible refine $(Lean.mkIdent `Y.g_isi_non_int) ?_)
  | (with_reducible refine $(Lean.mkIdent `Y.g_isi_non_bool) ?_)
  | (with_reducible refine $(Lean.mkIdent `Y.g_isi_non_str) ?_)
  | (with_reducible refine $(Lean.mkIdent `Y.g_isi_non_tuple) ?_)
  | ((with_reducible refine' $(Lean.mkIdent `Y.g_isi_lst_int) ?h ?_); (case h => walk_at "at"))
  | ((with_reducible refine' $(Lean.mkIdent `Y.g_isi_lst_bool) ?h ?_); (case h => walk_at "at"))
  | ((with_reducible refine' $(Lean.mkIdent `Y.g_isi_lst_str) ?h ?_); (case h => walk_at "at"))
  | ((with_reducible refine' $(Lean.mkIdent `Y.g_isi_lst_tuple) ?h ?_); (case h => walk_at "at"))
  | ((with_reducible refine' $(Lean.mkIdent `Y.g_isi_tup_int) ?h ?_); (case h => walk_at "at"))
  | ((with_reducible refine' $(Lean.mkIdent `Y.g_isi_tup_bool) ?h ?_); (case h => walk_at "at"))
  | ((with_reducible refine' $(Lean.mkIdent `Y.g_isi_tup_str) ?h ?_); (case h => walk_at "at"))
  | ((with_reducible refine' $(Lean.mkIdent `Y.g_isi_tup_tuple) ?h ?_); (case h => walk_at "at"))
  | fail)
local macro_rules | `(tactic| walk_at "xa") => `(tactic| first
  | with_reducible assumption
  | fail)
local macro_rules | `(tactic| walk_at "dc") => `(tactic| first
  | with_reducible assumption
  | fail)
local macro_rules | `(tactic| walk_at "s1") => `(tactic| first
  | ((with_reducible refine' $(Lean.mkIdent `Y.g_var) ?h ?_); (case h => exact rfl))
  | (with_reducible refine $(Lean.mkIdent `Y.g_c) ?_)
  | (with_reducible refine $(Lean.mkIdent `Y.g_op) ?_)
  | (with_reducible refine $(Lean.mkIdent `Y.g_cons) ?_)
  | (with_reducible refine $(Lean.mkIdent `Y.g_nil) ?_)
  | (with_reducible refine $(Lean.mkIdent `Y.g_test) ?_)
  | (with_reducible refine $(Lean.mkIdent `Y.g_cb) ?_)
  | (with_reducible refine $(Lean.mkIdent `Y.g_seqA) ?_)
  | (with_reducible refine $(Lean.mkIdent `Y.g_seqR) ?_)
  | (with_reducible refine $(Lean.mkIdent `Y.g_seqD) ?_)
  | (with_reducible refine $(Lean.mkIdent `Y.g_seqF) ?_)
  | (with_reducible refine $(Lean.mkIdent `Y.g_seqW) ?_)
  | (with_reducible refine $(Lean.mkIdent `Y.g_asg) ?_)
  | (with_reducible refine $(Lean.mkIdent `Y.g_name) ?_)
  | (with_reducible refine $(Lean.mkIdent `Y.g_ifS) ?_)
  | (with_reducible refine $(Lean.mkIdent `Y.ite_nf) ?_)
  | (with_reducible refine $(Lean.mkIdent `Y.ite_nt) ?_)
  | (with_reducible refine iteF ?_)
  | (with_reducible refine iteT ?_)
  | ((with_reducible refine $(Lean.mkIdent `Y.g_wipe) ?h ?_); (case h => exact rfl))
  | ((with_reducible refine' $(Lean.mkIdent `Y.g_take) ?T ?c0 ?c9 fun v H' h0 h1 T' k' => ?_); (case T => walk_at "tp"); (case c0 => walk_at "sd"); (case c9 => walk_at "sd"))
  | ((with_reducible refine $(Lean.mkIdent `Y.g_sz) ?z fun p hp => ?_); (case z => walk_at "sd"))
  | (with_reducible refine $(Lean.mkIdent `Y.g_pow6) ?_)
  | (with_reducible refine $(Lean.mkIdent `Y.g_pow12) ?_)
  | (with_reducible refine $(Lean.mkIdent `Y.g_pow18) ?_)
  | ((with_reducible refine $(Lean.mkIdent `Y.g_rI) ?c ?_); (case c => walk_at "sd"))
  | ((with_reducible refine $(Lean.mkIdent `Y.g_eq) ?c ?_); (case c => walk_at "rf"))
  | ((with_reducible refine $(Lean.mkIdent `Y.g_ne) ?c ?_); (case c => walk_at "rf"))
  | ((with_reducible refine' $(Lean.mkIdent `Y.g_ixL) ?h ?a ?_); (case h => walk_at "sq"); (case a => walk_at "ai"))
  | ((with_reducible refine' $(Lean.mkIdent `Y.g_pk2) ?h ?gxs ?a ?b fun v hv => ?_); (case h => walk_at "at"); (case gxs => with_reducible rfl); (case a => first | with_reducible assumption | omega); (case b => first | with_reducible assumption | omega))
  | ((with_reducible refine' $(Lean.mkIdent `Y.g_pk4) ?h ?gxs ?a ?b fun v hv => ?_); (case h => walk_at "at"); (case gxs => with_reducible rfl); (case a => first | with_reducible assumption | omega); (case b => first | with_reducible assumption | omega))
  | ((with_reducible refine' $(Lean.mkIdent `Y.g_pk5) ?h ?gxs ?a ?b fun v hv => ?_); (case h => walk_at "at"); (case gxs => with_reducible rfl); (case a => first | with_reducible assumption | omega); (case b => first | with_reducible assumption | omega))
  | ((with_reducible refine' $(Lean.mkIdent `Y.g_pickL) ?h ?a ?b ?e fun v hv => ?_); (case h => walk_at "at"); (case a => first | with_reducible assumption | omega); (case b => first | with_reducible assumption | omega); (case e => exact rfl))
  | ((with_reducible refine' $(Lean.mkIdent `Y.g_ixT) ?h ?a ?_); (case h => walk_at "sq"); (case a => walk_at "ai"))
  | ((with_reducible refine' $(Lean.mkIdent `Y.g_setL) ?h ?a ?_); (case h => walk_at "at"); (case a => walk_at "ai"))
  | ((with_reducible refine' $(Lean.mkIdent `Y.g_len) ?h ?_); (case h => walk_at "sq"))
  | (with_reducible refine $(Lean.mkIdent `Y.g_call) ?_)
  | (with_reducible refine $(Lean.mkIdent `Y.g_tB) ?_)
  | (with_reducible refine $(Lean.mkIdent `Y.g_un) ?_)
  | (with_reducible refine $(Lean.mkIdent `Y.g_and) ?_)
  | (with_reducible refine $(Lean.mkIdent `Y.g_or) ?_)
  | (with_reducible refine $(Lean.mkIdent `Y.g_not) ?_)
  | (with_reducible refine $(Lean.mkIdent `Y.g_tTup) ?_)
  | (with_reducible refine $(Lean.mkIdent `Y.g_tLst) ?_)
  | (with_reducible refine $(Lean.mkIdent `Y.g_sl) ?_)
  | (with_reducible refine $(Lean.mkIdent `Y.g_pt) ?_)
  | (with_reducible refine $(Lean.mkIdent `Y.g_np) ?_)
  | (with_reducible refine $(Lean.mkIdent `Y.g_bm) ?_)
  | (with_reducible refine $(Lean.mkIdent `Y.g_andV) ?_)
  | (with_reducible refine $(Lean.mkIdent `Y.g_orV) ?_)
  | (with_reducible refine $(Lean.mkIdent `Y.g_notV) ?_)
  | (with_reducible refine $(Lean.mkIdent `Y.g_chain) ?_)
  | (with_reducible refine $(Lean.mkIdent `Y.g_ret) ?_)
  | (with_reducible refine $(Lean.mkIdent `Y.g_drop) ?_)
  | (with_reducible refine $(Lean.mkIdent `Y.g_next) ?_)
  | (with_reducible refine $(Lean.mkIdent `Y.g_sub) ?_)
  | (with_reducible refine $(Lean.mkIdent `Y.g_gcons) ?_)
  | (with_reducible refine $(Lean.mkIdent `Y.g_gnil) ?_)
  | (with_reducible refine $(Lean.mkIdent `Y.g_yes) ?_)
  | (with_reducible refine $(Lean.mkIdent `Y.g_tru) ?_)
  | (with_reducible refine $(Lean.mkIdent `Y.g_truB) ?_)
  | (with_reducible refine $(Lean.mkIdent `Y.g_lstRg) ?_)
  | (with_reducible refine $(Lean.mkIdent `Y.g_rg2) ?_)
  | (with_reducible refine $(Lean.mkIdent `Y.g_rg1) ?_)
  | (with_reducible refine $(Lean.mkIdent `Y.g_exII) ?_)
  | (with_reducible refine $(Lean.mkIdent `Y.g_exI) ?_)
  | (with_reducible refine $(Lean.mkIdent `Y.g_rng1) ?_)
  | (with_reducible refine $(Lean.mkIdent `Y.g_rng2) ?_)
  | (with_reducible refine $(Lean.mkIdent `Y.g_iList) ?_)
  | (with_reducible refine $(Lean.mkIdent `Y.g_iTup) ?_)
  | (with_reducible refine $(Lean.mkIdent `Y.g_for) ?_)
  | (with_reducible refine $(Lean.mkIdent `Y.g_lc) ?_)
  | (with_reducible refine $(Lean.mkIdent `Y.g_rI0) ?_)
  | (with_reducible refine $(Lean.mkIdent `Y.g_isN) ?_)
  | (with_reducible refine $(Lean.mkIdent `Y.g_notN) ?_)
  | (with_reducible refine $(Lean.mkIdent `Y.g_neg) ?_)
  | (with_reducible refine $(Lean.mkIdent `Y.g_max2) ?_)
  | (with_reducible refine $(Lean.mkIdent `Y.g_min2) ?_)
  | (with_reducible refine $(Lean.mkIdent `Y.g_bl) ?_)
  | ((with_reducible refine' $(Lean.mkIdent `Y.g_slTo) ?n ?h fun p hp => ?_); (case n => walk_at "sd"); (case h => walk_at "sq"))
  | ((with_reducible refine' $(Lean.mkIdent `Y.g_slFrom) ?n ?h fun p hp => ?_); (case n => walk_at "sd"); (case h => walk_at "sq"))
  | ((with_reducible refine' $(Lean.mkIdent `Y.g_slL) ?h fun p hp => ?_); (case h => walk_at "sq"))
  | ((with_reducible refine' $(Lean.mkIdent `Y.g_extend) ?h ?h2 ?z ?_); (case h => walk_at "at"); (case h2 => walk_at "at"); (case z => walk_at "sd"))
  | ((with_reducible refine' $(Lean.mkIdent `Y.g_cat) ?h ?h2 ?z fun l hl => ?_); (case h => walk_at "at"); (case h2 => walk_at "at"); (case z => walk_at "sd"))
  | ((with_reducible refine' $(Lean.mkIdent `Y.g_is_whole) ?hh ?_); (case hh => walk_at "ad"))
  | ((with_reducible refine' $(Lean.mkIdent `Y.g_is_day) ?hh ?_); (case hh => walk_at "ad"))
  | ((with_reducible refine' $(Lean.mkIdent `Y.g_is_two_days) ?hh ?_); (case hh => walk_at "ad"))
  | ((with_reducible refine' $(Lean.mkIdent `Y.g_is_stretch) ?hh ?_); (case hh => walk_at "ad"))
  | ((with_reducible refine' $(Lean.mkIdent `Y.g_is_coins) ?hh ?_); (case hh => walk_at "ad"))
  | ((with_reducible refine' $(Lean.mkIdent `Y.g_is_nights) ?hh ?_); (case hh => walk_at "ad"))
  | (with_reducible refine $(Lean.mkIdent `Y.g_tMake) ?_)
  | ((with_reducible refine' $(Lean.mkIdent `Y.g_mkPrice) ?cf fun v H' hs hi => ?_); (case cf => with_reducible assumption))
  | ((with_reducible refine' $(Lean.mkIdent `Y.g_mkCome) ?cf fun v H' hs hi => ?_); (case cf => with_reducible assumption))
  | ((with_reducible refine' $(Lean.mkIdent `Y.g_mkGo) ?cf fun v H' hs hi => ?_); (case cf => with_reducible assumption))
  | ((with_reducible refine' $(Lean.mkIdent `Y.g_mkLeast) ?cf fun v H' hs hi => ?_); (case cf => with_reducible assumption))
  | ((with_reducible refine' $(Lean.mkIdent `Y.g_mkMost) ?cf fun v H' hs hi => ?_); (case cf => with_reducible assumption))
  | ((with_reducible refine' $(Lean.mkIdent `Y.g_mkDeal) ?cf fun v H' hs hi => ?_); (case cf => with_reducible assumption))
  | ((with_reducible refine' $(Lean.mkIdent `Y.g_mkFee) ?cf fun v H' hs hi => ?_); (case cf => with_reducible assumption))
  | ((with_reducible refine' $(Lean.mkIdent `Y.g_rule) ?ha ?hi ?no ?_); (case ha => exact rfl); (case hi => walk_at "ins"); (case no => exact rfl))
  | (with_reducible refine $(Lean.mkIdent `Y.g_word) ?_)
  | ((with_reducible refine' $(Lean.mkIdent `Y.g_fits) ?cf ?hi ?hh ?_); (case cf => with_reducible assumption); (case hi => walk_at "ins"); (case hh => walk_at "ad"))
  | ((with_reducible refine' $(Lean.mkIdent `Y.g_told) ?cf ?hi fun p H' hs hf ha => ?_); (case cf => with_reducible assumption); (case hi => walk_at "ins"))
  | ((with_reducible refine' $(Lean.mkIdent `Y.g_tells) ?cf ?hi ?_); (case cf => with_reducible assumption); (case hi => walk_at "ins"))
  | ((with_reducible refine' $(Lean.mkIdent `Y.g_first) ?cf ?ha ?hi ?_); (case cf => with_reducible assumption); (case ha => exact rfl); (case hi => walk_at "ins"))
  | ((with_reducible refine' $(Lean.mkIdent `Y.g_last) ?cf ?ha ?hi ?_); (case cf => with_reducible assumption); (case ha => exact rfl); (case hi => walk_at "ins"))
  | ((with_reducible refine' $(Lean.mkIdent `Y.g_worth) ?cf ?ha ?hi ?_); (case cf => with_reducible assumption); (case ha => exact rfl); (case hi => walk_at "ins"))
  | ((with_reducible refine' $(Lean.mkIdent `Y.g_Lcoins) ?T fun i H' T' k' h0 h1 => ?_); (case T => walk_at "tp"))
  | ((with_reducible refine' $(Lean.mkIdent `Y.g_Lworth) ?T fun v d H' T' k' ht hf => ?_); (case T => walk_at "tp"))
  | ((with_reducible refine' $(Lean.mkIdent `Y.g_Lrule) ?T ?c0 ?c1 fun v r H' T' k' hr hg => ?_); (case T => walk_at "tp"); (case c0 => walk_at "sd"); (case c1 => walk_at "sd"))
  | ((with_reducible refine' $(Lean.mkIdent `Y.g_bmeth) ?ha ?hi ?no ?_); (case ha => exact rfl); (case hi => walk_at "bk"); (case no => decide))
  | ((with_reducible refine' $(Lean.mkIdent `Y.g_brulesR) ?cf ?cb ?hi ?hl fun p H' ys hs hf ha hy => ?_); (case cf => with_reducible assumption); (case cb => with_reducible assumption); (case hi => walk_at "bk"); (case hl => walk_at "sd"))
  | ((with_reducible refine' $(Lean.mkIdent `Y.g_brules) ?cf ?cb ?hi ?hl fun p H' ys hs hf ha hy => ?_); (case cf => with_reducible assumption); (case cb => with_reducible assumption); (case hi => walk_at "bk"); (case hl => walk_at "sd"))
  | ((with_reducible refine' $(Lean.mkIdent `Y.g_tellsZ) ?cf ?cb ?hi ?ez fun x H' hs hx => ?_); (case cf => with_reducible assumption); (case cb => with_reducible assumption); (case hi => walk_at "bk"); (case ez => walk_at "wd"))
  | ((with_reducible refine' $(Lean.mkIdent `Y.g_tells_of) ?cf ?cb ?hi fun x H' hs hx => ?_); (case cf => with_reducible assumption); (case cb => with_reducible assumption); (case hi => walk_at "bk"))
  | (with_reducible refine $(Lean.mkIdent `Y.g_usual) ?_)
  | ((with_reducible refine' $(Lean.mkIdent `Y.g_mkBookL) ?cf ?cb ?ee ?h ?hp ?hl ?hg ?T fun v F H' hs hb hf hn => ?_); (case cf => with_reducible assumption); (case cb => with_reducible assumption); (case ee => exact rfl); (case h => walk_at "sq"); (case hp => walk_at "ru"); (case hl => walk_at "sd"); (case hg => walk_at "gd"); (case T => walk_at "tp"))
  | ((with_reducible refine' $(Lean.mkIdent `Y.g_insert0) ?h ?z ?_); (case h => walk_at "at"); (case z => walk_at "sd"))
  | (with_reducible refine $(Lean.mkIdent `Y.g_rng3) ?_)
  | ((with_reducible refine' $(Lean.mkIdent `Y.g_slT) ?h ?gw fun p hp => ?_); (case h => walk_at "sq"); (case gw => simp [HT.sIx]))
  | ((with_reducible refine' $(Lean.mkIdent `Y.g_listOf) ?h fun p hp => ?_); (case h => walk_at "sq"))
  | ((with_reducible refine' $(Lean.mkIdent `Y.g_append) ?h ?z ?_); (case h => walk_at "at"); (case z => walk_at "sd"))
  | ((with_reducible refine' $(Lean.mkIdent `Y.g_gtup) ?h ?l ?_); (case h => walk_at "sq"); (case l => walk_at "rf"))
  | ((with_reducible refine' $(Lean.mkIdent `Y.g_tyL) ?h ?_); (case h => walk_at "sq"))
  | ((with_reducible refine $(Lean.mkIdent `Y.g_rng1b) ?a ?b ?_); (case a => walk_at "sd"); (case b => walk_at "sd"))
  | ((with_reducible refine $(Lean.mkIdent `Y.g_rng2b) ?a ?_); (case a => walk_at "sd"))
  | ((with_reducible refine' $(Lean.mkIdent `Y.g_iListb) ?h ?_); (case h => walk_at "sq"))
  | ((with_reducible refine' $(Lean.mkIdent `Y.g_iTupb) ?h ?_); (case h => walk_at "sq"))
  | (with_reducible refine $(Lean.mkIdent `Y.g_begin) fun t H' hs hf T => ?_)
  | ((with_reducible refine' $(Lean.mkIdent `Y.g_sortedP) ?h ?p fun p ys us hp hy hq hw => ?_); (case h => walk_at "sq"); (case p => walk_at "prs"))
  | walk_at "isi"
  | ((with_reducible refine' $(Lean.mkIdent `Y.g_nights) ?h ?b fun p H' hs hp he => ?_); (case h => walk_at "sq"); (case b => exact ⟨by omega, by omega, by omega, by omega⟩))
  | fail)
local macro_rules | `(tactic| walk_at "ss") => `(tactic| repeat walk_at "s1")
local macro_rules | `(tactic| walk_at "st") => `(tactic| repeat (first | walk_at "s1" | (with_reducible refine $(Lean.mkIdent `Y.g_seq) ?_)))
def t_Ltake (K : PySem.W.Frag) : TS :=
  (tSeq (tIfS (tTest (tOp rGt (tOp (rIxL K) (tVar 0) (tC (.int 0))) (tC (.int 0))))
  (tSeq (tAsg (tOp rMod (tOp (rIxL K) (tVar 0) (tC (.int 0))) (tVar 1)) (gName 2))
  (tSeq (tAsg (tOp rDivW (tOp (rIxL K) (tVar 0) (tC (.int 0))) (tVar 1)) (gSub (tVar 0) (tC (.int 0)) rSetL))
  (tRet (tVar 2))))
  tNext)
  (tSeq (tAsg (tOp rMod (tOp rAdd (tOp rMul (tOp (rIxL K) (tVar 0) (tC (.int 1))) (tC (.int 48271))) (tC (.int 11))) (tC (.int 2147483647))) (gSub (tVar 0) (tC (.int 1)) rSetL))
  (tSeq (tAsg (tOp rMod (tOp rAdd (tOp rAdd (tOp rMul (tOp (rIxL K) (tVar 0) (tC (.int 1))) (tOp (rIxL K) (tVar 0) (tC (.int 1)))) (tOp rMul (tC (.int 69621)) (tOp (rIxL K) (tVar 0) (tC (.int 1))))) (tC (.int 7))) (tC (.int 2147483629))) (gName 3))
  (tRet (tOp rMod (tOp rDivW (tVar 3) (tC (.int 64))) (tVar 1))))))
theorem pure_Ltake {K : PySem.W.Frag} {x y : V} {H : Hp} {Q : VK} {E : XK} (h : sp_Ltake K [x, y] H Q E) : t_Ltake K { nx := fun _ H' => Q .non H', rt := Q } [some x, some y, none, none] H := by
  obtain ⟨x, y, e, t, b, s, m, rfl, rfl, ⟨rfl, rfl, a, c, ht, ha, hc, hc2⟩, hm0, hm9, q⟩ := h
  cases e
  unfold t_Ltake
  with_reducible refine g_seq ?_
  walk_at "ss"
  refine ite_d (fun z => ?_) fun z => ?_
  · with_reducible refine g_seqA ?_
    walk_at "ss"
    exact q _ _ (Int.emod_nonneg _ (by omega)) (Int.emod_lt_of_pos _ hm0) ⟨rfl, rfl, _, _, upd_same, Int.ediv_nonneg ha (by omega), hc, hc2⟩ (kp_upd (by simp))
  · walk_at "ss"
    have e0 : 0 ≤ (c * 48271 + 11) % 2147483647 := Int.emod_nonneg _ (by decide)
    have e1 : (c * 48271 + 11) % 2147483647 < 2147483647 := Int.emod_lt_of_pos _ (by decide)
    exact q _ _ (Int.emod_nonneg _ (by omega)) (Int.emod_lt_of_pos _ hm0) ⟨rfl, rfl, _, _, upd_same, ha, e0, by omega⟩ (kp_upd (by simp))
def t_Lbegin (K : PySem.W.Frag) : TS :=
  (tSeq (tIfS (tTest (tOp rGe (tVar 0) (tOp rPow (tC (.int 10)) (tC (.int 18)))))
  (tRet (tLst (tCons (tOp rSub (tVar 0) (tOp rPow (tC (.int 10)) (tC (.int 18)))) (tCons (tC (.int 0)) tNil))))
  tNext)
  (tRet (tLst (tCons (tC (.int 0)) (tCons (tOp rAdd (tOp rMod (tVar 0) (tC (.int 2147483629))) (tC (.int 11))) tNil)))))
theorem pure_Lbegin {K : PySem.W.Frag} {x : V} {H : Hp} {Q : VK} {E : XK} (h : sp_Lbegin K [x] H Q E) : t_Lbegin K { nx := fun _ H' => Q .non H', rt := Q } [some x] H := by
  obtain ⟨x, e, c, rfl, q⟩ := h
  cases e
  unfold t_Lbegin
  walk_at "ss"
  refine ite_d (fun z => ?_) fun z => ?_
  · walk_at "ss"
    rename_i t ht
    exact q t _ (same_new ht) ht ⟨rfl, rfl, _, _, upd_same, by omega, by decide, by decide⟩
  · walk_at "ss"
    rename_i t ht
    have e0 : 0 ≤ c % 2147483629 := Int.emod_nonneg _ (by decide)
    have e1 : c % 2147483629 < 2147483629 := Int.emod_lt_of_pos _ (by decide)
    exact q t _ (same_new ht) ht ⟨rfl, rfl, _, _, upd_same, by decide, by omega, by omega⟩
def t_Lcell_at (K : PySem.W.Frag) : TS :=
  (tSeq (tIfS (tTest (tOp rLt (tVar 1) (tCB (rLen K) (tCons (tVar 0) tNil))))
  (tRet (tOp (rIxL K) (tVar 0) (tVar 1)))
  tNext)
  (tRet (tC (.int 0))))
/-! Y2: days, stays, nights. -/
open PySem PySem.Spec PyProof.Rows L2
def sp_nights_of (K : PySem.W.Frag) : Sp := Sp1 fun x H Q E => ∃ (a : Addr) (c g : Int), x = .ref a ∧ SqT K H a [.int c, .int g] ∧ c - 1000 ≤ g ∧ g ≤ c + 1000 ∧ -10000000 ≤ c ∧ c ≤ 10000000 ∧
  ∀ (p : Addr) (H' : Hp), Same H H' → Fr H p → H' p = some (.lst ((days c g).map V.int)) → Q (.ref p) H'
theorem g_nights {K : PySem.W.Frag} {a : Addr} {c g : Int} {H : Hp} {Q : VK} {E : XK} (h : SqT K H a [.int c, .int g]) (b : c - 1000 ≤ g ∧ g ≤ c + 1000 ∧ -10000000 ≤ c ∧ c ≤ 10000000)
    (q : ∀ (p : Addr) (H' : Hp), Same H H' → Fr H p → H' p = some (.lst ((days c g).map V.int)) → Q (.ref p) H') : sp_nights_of K ([.ref a] ++ []) H Q E :=
  ⟨_, rfl, a, c, g, rfl, h, b.1, b.2.1, b.2.2.1, b.2.2.2, q⟩
def t_nights_of (K : PySem.W.Frag) : TS :=
  (tRet (tLstRg (tRg2 (tOp (rIxT K) (tVar 0) (tC (.int 0))) (tOp (rIxT K) (tVar 0) (tC (.int 1))))))
theorem pure_nights_of {K : PySem.W.Frag} {x : V} {H : Hp} {Q : VK} {E : XK} (h : sp_nights_of K [x] H Q E) : t_nights_of K { nx := fun _ H' => Q .non H', rt := Q } [some x] H := by
  obtain ⟨x, e, a, c, g, rfl, hS, h1, h2, h3, h4, q⟩ := h
  cases e
  unfold t_nights_of
  walk_at "ss"
  refine ⟨⟨by omega, by omega, by omega, by omega, by omega⟩, fun p hp => q p _ (same_new hp) hp (by rw [upd_same, rgV_days])⟩
/-! YX: list.count of flat items; range of three arguments. -/
open PySem PySem.Spec PyProof.Rows L2
/-- l.count(y), flat items -/
def rCntV (K : PySem.W.Frag) : V → List V → Hp → VK → Prop := fun x vs H Q => ∃ (p : Addr) (xs : List V) (y : V), x = .ref p ∧ vs = [y] ∧ flatV y = true ∧ xs.all flatV = true ∧ SqL K H p xs ∧ Q (.int (xs.countP fun z => eqV z y : Nat)) H
theorem rg_up {n c : Nat} (hc : 0 < c) (hc2 : c < 1000000) (hn : n < 1000000) : RgC 0 ((n : Int) - c + 1) c (n / c) := by
  have e : Builtin.Range.rangeSize 0 ((n : Int) - c + 1) c = ((n / c : Nat) : Int) := by
    unfold Builtin.Range.rangeSize
    rw [if_pos (by omega)]
    by_cases h : c ≤ n
    · rw [if_pos (by omega)]
      have e1 : (n : Int) - c + 1 - 0 - 1 = ((n - c : Nat) : Int) := by omega
      rw [e1]
      have e2 : n / c = (n - c) / c + 1 := by
        have := Nat.sub_mul_div n c 1
        have h3 : 0 < n / c := Nat.div_pos h hc
        rw [Nat.mul_one] at this
        omega
      rw [e2]
      norm_cast
    · rw [if_neg (by omega), Nat.div_eq_of_lt (by omega)]
      rfl
  refine ⟨by omega, by omega, ?_, e⟩
  have h1 : n / c ≤ n := Nat.div_le_self n c
  unfold Builtin.Range.small
  rw [e]
  simp only [Builtin.Range.rangeFitsLong, Bool.and_eq_true, Bool.or_eq_true, decide_eq_true_eq, beq_iff_eq]
  rw [if_pos (show (c : Int) > 0 by omega)]
  simp only [Bool.and_eq_true, decide_eq_true_eq]
  generalize n / c = k at h1
  omega
/-! Y8: marked: which nights of bundles are free. -/
open PySem PySem.Spec PyProof.Rows L2
/-! ### the plain law -/
def ltP (a b : Pr) : Bool := decide (a.1 < b.1) || (decide (a.1 = b.1) && decide (a.2 < b.2))
theorem ltP_iff {a b : Pr} : ltP a b = true ↔ a.1 < b.1 ∨ (a.1 = b.1 ∧ a.2 < b.2) := by
  unfold ltP
  simp
def key (ps : List Int) (p : Nat) : Pr := (ps.getD p 0, (ps.length : Int) - p)
theorem key_inj {ps : List Int} {p q : Nat} (h : key ps p = key ps q) : p = q := by
  have := congrArg Prod.snd h
  simp only [key] at this
  omega
def bund (ps : List Int) (m b : Nat) : List Pr := (List.range m).map fun i => key ps (b * m + i)
def rank (ps : List Int) (m p : Nat) : Nat := (bund ps m (p / m)).countP fun k => ltP k (key ps p)
def isMk (ps : List Int) (m f p : Nat) : Bool := decide (p / m < ps.length / m) && decide (rank ps m p < f)
def mk (ps : List Int) (m f : Nat) : List Bool := (List.range ps.length).map fun p => isMk ps m f p
def mkO (ps : List Int) : Option (Int × Int) → List Bool
  | none => List.replicate ps.length false
  | some d => mk ps d.1.toNat d.2.toNat
theorem mkO_len (ps : List Int) (d : Option (Int × Int)) : (mkO ps d).length = ps.length := by
  cases d with
  | none => simp [mkO]
  | some d => simp [mkO, mk]
/-- in a list that rises strictly the first f are those with fewer than f below -/
theorem take_rank : ∀ {us : List Pr}, us.Pairwise (fun a b => ltP a b = true) → ∀ {x : Pr}, x ∈ us → ∀ f : Nat, x ∈ us.take f ↔ us.countP (fun k => ltP k x) < f
  | [], _, x, hx, f => by cases hx
  | u :: r, h, x, hx, f => by
    obtain ⟨h1, h2⟩ := List.pairwise_cons.mp h
    have irr : ∀ a : Pr, ltP a a = false := fun a => by
      rw [← Bool.not_eq_true, ltP_iff]
      omega
    cases f with
    | zero => simp
    | succ f =>
      rw [List.take_succ_cons, List.countP_cons]
      rcases List.mem_cons.mp hx with e | hx
      · subst e
        have e0 : r.countP (fun k => ltP k x) = 0 := List.countP_eq_zero.mpr fun k hk hh => by
          have h3 := ltP_iff.mp (h1 k hk)
          have h4 := ltP_iff.mp hh
          omega
        rw [e0, irr]
        simp
      · have hux := h1 x hx
        have nx : x ≠ u := fun e => by rw [e, irr] at hux; cases hux
        rw [hux, if_pos rfl]
        have ih := take_rank h2 hx f
        constructor
        · intro hm
          rcases List.mem_cons.mp hm with e | hm
          · exact absurd e nx
          · have := ih.mp hm
            omega
        · intro hm
          exact List.mem_cons_of_mem _ (ih.mpr (by omega))
theorem mem_bund {ps : List Int} {m b p : Nat} (hm : 0 < m) : key ps p ∈ bund ps m b ↔ p / m = b := by
  unfold bund
  rw [List.mem_map]
  constructor
  · rintro ⟨i, hi, e⟩
    have := key_inj e
    have hi' := List.mem_range.mp hi
    rw [← this, Nat.mul_comm, Nat.mul_add_div hm, Nat.div_eq_of_lt hi']
    omega
  · rintro rfl
    exact ⟨p % m, List.mem_range.mpr (Nat.mod_lt _ hm), by rw [Nat.mul_comm, Nat.div_add_mod]⟩
theorem nodup_bund (ps : List Int) (m b : Nat) : (bund ps m b).Nodup := by
  unfold bund
  refine List.Pairwise.map _ (fun i j (h : i ≠ j) e => h ?_) List.nodup_range
  have := key_inj e
  omega
/-- the sorted bundle rises strictly -/
theorem sorted_strict {ps : List Int} {m b : Nat} {us : List Pr} (hp : us.Perm (bund ps m b)) (ho : us.Pairwise fun p q => p.1 < q.1 ∨ (p.1 = q.1 ∧ p.2 ≤ q.2)) : us.Pairwise fun a b => ltP a b = true := by
  have nd : us.Nodup := hp.nodup_iff.mpr (nodup_bund ps m b)
  refine (ho.and nd).imp fun {x y} h => ltP_iff.mpr ?_
  rcases h.1 with h1 | ⟨h1, h2⟩
  · exact .inl h1
  · refine .inr ⟨h1, ?_⟩
    by_cases e : x.2 = y.2
    · exact absurd (Prod.ext h1 e) h.2
    · omega
theorem mem_take {ps : List Int} {m b f p : Nat} (hm : 0 < m) {us : List Pr} (hp : us.Perm (bund ps m b)) (ho : us.Pairwise fun p q => p.1 < q.1 ∨ (p.1 = q.1 ∧ p.2 ≤ q.2)) :
    key ps p ∈ us.take f ↔ p / m = b ∧ rank ps m p < f := by
  have hs := sorted_strict hp ho
  constructor
  · intro h
    have hu := List.mem_of_mem_take h
    have hb := (mem_bund hm).mp (hp.mem_iff.mp hu)
    refine ⟨hb, ?_⟩
    unfold rank
    rw [hb, ← hp.countP_eq]
    exact (take_rank hs hu f).mp h
  · rintro ⟨rfl, h⟩
    have hu := hp.mem_iff.mpr ((mem_bund hm).mpr rfl)
    refine (take_rank hs hu f).mpr ?_
    rw [hp.countP_eq]
    exact h
theorem set_map {β : Type} (n p : Nat) (f : Nat → β) (v : β) : ((List.range n).map f).set p v = (List.range n).map fun q => if q = p then v else f q := by
  apply List.ext_getElem (by simp)
  intro i h1 h2
  rw [List.getElem_set]
  simp
  by_cases h : p = i
  · rw [if_pos h, if_pos h.symm]
  · rw [if_neg h, if_neg (Ne.symm h)]
theorem ix_nat {n p : Nat} {i : Int} (e : i = p) (h : p < n) : ixN n i = some p := by
  subst e
  unfold ixN
  simp
  exact h
/-! ### the walk -/
def DealAt (H : Hp) (y : V) : Option (Int × Int) → Prop
  | none => y = .non
  | some d => PrAt H y d ∧ 0 < d.1 ∧ d.1 ≤ 1000 ∧ 0 ≤ d.2
def sp_marked (K : PySem.W.Frag) : Sp := Sp2 fun x y H Q E => ∃ (a : Addr) (ps : List Int) (d : Option (Int × Int)), x = .ref a ∧ SqL K H a (ps.map V.int) ∧ ps.length ≤ 1000 ∧ DealAt H y d ∧
  ∀ (l : Addr) (H' : Hp), Same H H' → Fr H l → H' l = some (.lst ((mkO ps d).map V.bl)) → Q (.ref l) H'
theorem g_marked {K : PySem.W.Frag} {a : Addr} {y : V} {ps : List Int} {H : Hp} {Q : VK} {E : XK} (d : Option (Int × Int)) (h : SqL K H a (ps.map V.int)) (hl : ps.length ≤ 1000) (hd : DealAt H y d)
    (q : ∀ (l : Addr) (H' : Hp), Same H H' → Fr H l → H' l = some (.lst ((mkO ps d).map V.bl)) → Q (.ref l) H') : sp_marked K ([.ref a, y] ++ []) H Q E := ⟨_, y, rfl, a, ps, d, rfl, h, hl, hd, q⟩
theorem range_no (n : Nat) : (List.range n).filterMap (fun _ => some (V.bl false)) = (List.replicate n false).map V.bl := by
  induction n with
  | zero => rfl
  | succ n ih => rw [List.range_succ, List.filterMap_append, ih, List.replicate_succ']; simp
def t_marked (K : PySem.W.Frag) : TS :=
  (tSeq (tAsg (tLc (iList K (tVar 0)) (gName 2) tYes (tC (.bl false)) [2]) (gName 3))
  (tSeq (tIfS (tTest (tOp rIsN (tVar 1) (tC .non)))
  (tRet (tVar 3))
  tNext)
  (tSeq (tAsg (tVar 1) (gTup K 2 (gCons (gName 4) (gCons (gName 5) gNil))))
  (tSeq (tFor (iRng3 (tCons (tC (.int 0)) (tCons (tOp rAdd (tOp rSub (tCB (rLen K) (tCons (tVar 0) tNil)) (tVar 4)) (tC (.int 1))) (tCons (tVar 4) tNil)))) (gName 6)
  (tSeq (tAsg (tCB (rSortedPO K) (tCons (tLc (iRng2 (tCons (tVar 6) (tCons (tOp rAdd (tVar 6) (tVar 4)) tNil))) (gName 9) tYes (tTup (tCons (tOp (rIxL K) (tVar 0) (tVar 9)) (tCons (tOp rSub (tCB (rLen K) (tCons (tVar 0) tNil)) (tVar 9)) tNil))) [9]) tNil)) (gName 7))
  (tFor (iList K (tSl (rSlL K) (tVar 7) tNoPart (tPart (tVar 5)))) (gTup K 2 (gCons (gName 2) (gCons (gName 8) gNil)))
  (tAsg (tC (.bl true)) (gSub (tVar 3) (tOp rSub (tCB (rLen K) (tCons (tVar 0) tNil)) (tVar 8)) rSetL)))))
  (tRet (tVar 3))))))
theorem pure_marked {K : PySem.W.Frag} {x y : V} {H : Hp} {Q : VK} {E : XK} (h : sp_marked K [x, y] H Q E) : t_marked K { nx := fun _ H' => Q .non H', rt := Q } [some x, some y, none, none, none, none, none, none, none, none] H := by
  obtain ⟨x, y, e, a, ps, d, rfl, hS, hl, hd, q⟩ := h
  cases e
  unfold t_marked
  walk_at "ss"
  refine lc_w (f := fun _ => some (.bl false)) (walk_list (K := K) (a := a) (xs := ps.map V.int)) (by rw [List.length_map]; omega) (fun H' s => Same.seq s hS) ?_ ?_
  · rintro D i x H2 H3 N hD hi hs ⟨rfl, hx⟩ hN _
    walk_at "ss"
    exact hN _ _ rfl (Same.refl _)
  intro D H1 hD s1 hD1
  rw [range_no, List.length_map] at hD1
  walk_at "ss"
  cases d with
  | none =>
    obtain rfl : y = .non := hd
    refine ite_dt rfl ?_
    walk_at "ss"
    exact q D _ s1 hD hD1
  | some d =>
    obtain ⟨⟨dv, rfl, hdv⟩, hd1, hd2, hd3⟩ := hd
    obtain ⟨m, hm⟩ : ∃ m : Nat, d.1 = m := ⟨d.1.toNat, by omega⟩
    obtain ⟨f, hf⟩ : ∃ f : Nat, d.2 = f := ⟨d.2.toNat, by omega⟩
    rw [hm, hf] at hdv
    refine ite_df (by simp) ?_
    walk_at "ss"
    refine ⟨_, _, _, _, rfl, rg_up (n := (ps.map V.int).length) (c := m) (by omega) (by omega) (by rw [List.length_map]; omega), ?_⟩
    rw [List.length_map]
    have nal : ∀ H2 : Hp, Same H1 H2 → SqL K H2 a (ps.map V.int) := fun H2 s2 => Same.seq (s1.trans s2) hS
    refine for_rangeC (lo := 0) (c := (m : Int)) (n := ps.length / m) (fun b σ H' => ∃ v2 v6 v7 v8, σ = [some (.ref a), some (.ref dv), v2, some (.ref D), some (.int m), some (.int f), v6, v7, v8, none] ∧ Same H H' ∧ H' D = some (.lst (((List.range ps.length).map fun p => decide (p / m < b) && decide (rank ps m p < f)).map V.bl)))
      ⟨_, _, _, _, rfl, s1, ?h0⟩ ?_ ?_
    case h0 =>
      rw [hD1]
      congr 3
      apply List.ext_getElem (by simp)
      intro i h1 h2
      simp
    · clear hD1 s1 nal H1 q
      rintro b σ H1 hb ⟨v2, v6, v7, v8, rfl, s1, hD1⟩
      have hbm : b * m + m ≤ ps.length := by
        have h1 := Nat.div_mul_le_self ps.length m
        have h2 : (b + 1) * m ≤ ps.length / m * m := Nat.mul_le_mul_right m hb
        rw [Nat.add_mul, Nat.one_mul] at h2
        omega
      have hbm' : (b : Int) * (m : Int) = ((b * m : Nat) : Int) := by push_cast; rfl
      rw [hbm']
      walk_at "ss"
      rw [show (0 + ((b * m : Nat) : Int) + (m : Int) - (0 + ((b * m : Nat) : Int))).toNat = m by omega]
      refine lc_r (walk_range (lo := 0 + ((b * m : Nat) : Int)) (n := m)) PrAt (fun _ _ _ _ e h => pr_tk e h) (fun i => some (key ps (b * m + i))) (by omega) (fun _ _ => trivial) ?_ ?_
      · rintro D2 i x H2 H3 N hD2 hi s2 ⟨rfl, rfl⟩ hN _
        have hat : atI (ps.map V.int) (0 + ((b * m : Nat) : Int) + (i : Int)) = some (.int (ps.getD (b * m + i) 0)) := by
          have h1 : b * m + i < ps.length := by omega
          have h2 := atI_nat (xs := ps.map V.int) (j := b * m + i) (v := .int (ps.getD (b * m + i) 0)) (by rw [List.getElem?_map, List.getElem?_eq_getElem h1, List.getD_eq_getElem?_getD, List.getElem?_eq_getElem h1]; rfl)
          rw [show (0 + ((b * m : Nat) : Int) + (i : Int)) = ((b * m + i : Nat) : Int) by omega]
          exact h2
        have hSq : SqL K H3 a (ps.map V.int) := Same.seq (s1.trans s2) hS
        walk_at "ss"
        rename_i p hp
        refine hN _ _ _ rfl (same_new hp) ⟨p, rfl, ?_⟩
        rw [upd_same]
        unfold key
        rw [List.length_map, show (0 + ((b * m : Nat) : Int) + (i : Int)) = ((b * m + i : Nat) : Int) by omega]
      intro D2 H2 ys hD2 s2 h2 hP
      have eb : (List.range m).filterMap (fun i => some (key ps (b * m + i))) = bund ps m b := congrFun (List.filterMap_eq_map (f := fun i => key ps (b * m + i))) (List.range m)
      rw [eb] at hP
      walk_at "ss"
      rename_i p3 zs us hp3 hzs hper hord p4 hp4
      have n1 : p3 ≠ D := by walk_at "ne"
      have n2 : p4 ≠ D := by walk_at "ne"
      have h4 : (upd (upd H2 p3 (.lst zs)) p4 (.lst (cutV zs none (some (f : Int))))) p4 = some (.lst (zs.take f)) := by rw [upd_same, cut_to (by omega), Int.toNat_natCast]
      have hPt : PrsAt (upd (upd H2 p3 (.lst zs)) p4 (.lst (cutV zs none (some (f : Int))))) (zs.take f) (us.take f) := by
        have := Paired.take f hzs
        walk_at "prs"
      refine for_list (K := K) (a := p4) (xs := zs.take f) (fun j σ H' => ∃ v2 v8, σ = [some (.ref a), some (.ref dv), v2, some (.ref D), some (.int m), some (.int f), some (.int (0 + ((b * m : Nat) : Int))), some (.ref p3), v8, none] ∧ Same H H' ∧ H' p4 = some (.lst (zs.take f)) ∧ PrsAt H' (zs.take f) (us.take f) ∧
          H' D = some (.lst (((List.range ps.length).map fun p => (decide (p / m < b) && decide (rank ps m p < f)) || decide (key ps p ∈ (us.take f).take j)).map V.bl)))
        ⟨_, _, rfl, by walk_at "sm", h4, hPt, ?h0⟩ (fun j σ H' _ h => by obtain ⟨_, _, _, _, h, _⟩ := h; exact SqL.of h) ?_ ?_
      case h0 =>
        have hD2 : H2 D = some _ := s2 _ _ hD1
        have := at_new (u := .lst (cutV zs none (some (f : Int)))) hp4 (at_new (u := .lst zs) hp3 hD2)
        rw [this]
        simp
      · clear hPt h4 hp4 hzs hp3 hP h2 s2 H2 hD1 s1 H1 hD2
        rintro j x σ H' hj ⟨v2, v8, rfl, s1, h4, hPt, hD1⟩
        obtain ⟨r, hr, w, rfl, hw⟩ := Paired.getL hPt hj
        have hrm := List.mem_of_getElem? hr
        have hru : r ∈ bund ps m b := hper.mem_iff.mp (List.mem_of_mem_take hrm)
        obtain ⟨i, hi, rfl⟩ := List.mem_map.mp hru
        have hi' := List.mem_range.mp hi
        have hSq : SqL K H' a (ps.map V.int) := Same.seq s1 hS
        have hlt : b * m + i < ps.length := by omega
        walk_at "ss"
        refine g_setL hD1 (ix_nat (p := b * m + i) ?gix1 ?gix2) ?_
        case gix1 =>
          rw [List.length_map]
          unfold key
          show (ps.length : Int) - ((ps.length : Int) - ((b * m + i : Nat) : Int)) = _
          omega
        case gix2 =>
          rw [List.length_map, List.length_map, List.length_range]
          exact hlt
        refine ⟨_, _, rfl, by walk_at "sm", at_ne n2 h4, by walk_at "prs", ?_⟩
        rw [upd_same, show V.bl true = V.bl true from rfl, ← List.map_set, set_map]
        congr 3
        refine List.map_congr_left fun q hq => ?_
        rw [List.take_add_one, hr, Option.toList_some]
        by_cases e : q = b * m + i
        · subst e
          simp
        · have e2 : ¬ key ps q = key ps (b * m + i) := fun h => e (key_inj h)
          simp [e, e2]
      · rintro σ H' ⟨v2, v8, rfl, s1, h4, hPt, hD1⟩
        have hlz := Paired.length hPt
        rw [List.take_of_length_le (Nat.le_of_eq hlz.symm)] at hD1
        refine ⟨_, _, _, _, rfl, s1, ?_⟩
        rw [hD1]
        congr 3
        refine List.map_congr_left fun q hq => ?_
        have hmm : 0 < m := by omega
        have e := mem_take (ps := ps) (m := m) (b := b) (f := f) (p := q) hmm hper hord
        rw [Bool.eq_iff_iff]
        simp only [Bool.or_eq_true, Bool.and_eq_true, decide_eq_true_eq, e]
        constructor
        · rintro (⟨h1, h2⟩ | ⟨h1, h2⟩)
          · exact ⟨by omega, h2⟩
          · exact ⟨by omega, h2⟩
        · rintro ⟨h1, h2⟩
          by_cases h3 : q / m < b
          · exact .inl ⟨h3, h2⟩
          · exact .inr ⟨by omega, h2⟩
    · rintro σ H' ⟨v2, v6, v7, v8, rfl, s1, hD1⟩
      walk_at "ss"
      refine q D _ s1 hD ?_
      rw [hD1]
      unfold mkO
      show _ = some (HO.lst ((mk ps d.1.toNat d.2.toNat).map V.bl))
      rw [hm, hf]
      rfl
/-! YA: data of any shape in the heap. -/
open PySem PySem.Spec PyProof.Rows L2
mutual
/-- v is laid as d; its lists and tuples stand at none of L -/
inductive At (H : Hp) (L : List Addr) : V → PyData → Prop
  | non : At H L .non .none
  | bl (b : Bool) : At H L (.bl b) (.bool b)
  | int (i : Int) : At H L (.int i) (.int i)
  | str (z : Str) : At H L (.str z) (.str z)
  | lst {a : Addr} {xs : List V} {ds : List PyData} (n : a ∉ L) (h : H a = some (.lst xs)) (r : Ats H L xs ds) : At H L (.ref a) (.list ds)
  | tup {a : Addr} {xs : List V} {ds : List PyData} (n : a ∉ L) (h : H a = some (.tup xs)) (r : Ats H L xs ds) : At H L (.ref a) (.tuple ds)
inductive Ats (H : Hp) (L : List Addr) : List V → List PyData → Prop
  | nil : Ats H L [] []
  | cons {v : V} {vs : List V} {d : PyData} {ds : List PyData} (h : At H L v d) (r : Ats H L vs ds) : Ats H L (v :: vs) (d :: ds)
end
theorem Ats.len {H : Hp} {L : List Addr} : ∀ {vs : List V} {ds : List PyData}, Ats H L vs ds → vs.length = ds.length
  | _, _, .nil => rfl
  | _, _, .cons _ r => by rw [List.length_cons, List.length_cons, Ats.len r]
mutual
theorem At.mono {H H' : Hp} {L L' : List Addr} (k : ∀ a o, H a = some o → a ∉ L → H' a = some o) (l : ∀ a ∈ L', a ∈ L) : ∀ {v : V} {d : PyData}, At H L v d → At H' L' v d
  | _, _, .non => .non
  | _, _, .bl b => .bl b
  | _, _, .int i => .int i
  | _, _, .str z => .str z
  | _, _, .lst n h r => .lst (fun z => n (l _ z)) (k _ _ h n) (Ats.mono k l r)
  | _, _, .tup n h r => .tup (fun z => n (l _ z)) (k _ _ h n) (Ats.mono k l r)
theorem Ats.mono {H H' : Hp} {L L' : List Addr} (k : ∀ a o, H a = some o → a ∉ L → H' a = some o) (l : ∀ a ∈ L', a ∈ L) : ∀ {vs : List V} {ds : List PyData}, Ats H L vs ds → Ats H' L' vs ds
  | _, _, .nil => .nil
  | _, _, .cons h r => .cons (At.mono k l h) (Ats.mono k l r)
end
theorem At.kp {H H' : Hp} {L : List Addr} {v : V} {d : PyData} (k : Kp L H H') (h : At H L v d) : At H' L v d := h.mono k fun _ z => z
theorem At.same {H H' : Hp} {L : List Addr} {v : V} {d : PyData} (k : Same H H') (h : At H L v d) : At H' L v d := h.mono (fun a o e _ => k a o e) fun _ z => z
theorem at_new' {H : Hp} {L : List Addr} {p : Addr} {o : HO} {v : V} {d : PyData} (hp : Fr H p) (h : At H L v d) : At (upd H p o) L v d := h.same (same_new hp)
mutual
theorem At.dp {K : PySem.W.Frag} {H : Hp} {L : List Addr} : ∀ {v : V} {d : PyData}, At H L v d → Dp K H v d
  | _, _, .non => .non
  | _, _, .bl b => .bl b
  | _, _, .int i => .int i
  | _, _, .str z => .str z
  | _, _, .lst _ h r => .lst (SqL.of h) (Ats.dp r)
  | _, _, .tup _ h r => .tup (SqT.of h) (Ats.dp r)
theorem Ats.dp {K : PySem.W.Frag} {H : Hp} {L : List Addr} : ∀ {vs : List V} {ds : List PyData}, Ats H L vs ds → DpAll K H vs ds
  | _, _, .nil => .nil
  | _, _, .cons h r => .cons (At.dp h) (Ats.dp r)
end
theorem at_tup0 {H : Hp} {a : Addr} {xs : List V} {ds : List PyData} (h : H a = some (.tup xs)) (r : Ats H [] xs ds) : At H [] (.ref a) (.tuple ds) := .tup (by simp) h r
theorem at_lst0 {H : Hp} {a : Addr} {xs : List V} {ds : List PyData} (h : H a = some (.lst xs)) (r : Ats H [] xs ds) : At H [] (.ref a) (.list ds) := .lst (by simp) h r
mutual
/-- data of tuples alone -/
inductive Td (H : Hp) : V → PyData → Prop
  | non : Td H .non .none
  | bl (b : Bool) : Td H (.bl b) (.bool b)
  | int (i : Int) : Td H (.int i) (.int i)
  | str (z : Str) : Td H (.str z) (.str z)
  | tup {a : Addr} {xs : List V} {ds : List PyData} (h : H a = some (.tup xs)) (r : Tds H xs ds) : Td H (.ref a) (.tuple ds)
inductive Tds (H : Hp) : List V → List PyData → Prop
  | nil : Tds H [] []
  | cons {v : V} {vs : List V} {d : PyData} {ds : List PyData} (h : Td H v d) (r : Tds H vs ds) : Tds H (v :: vs) (d :: ds)
end
mutual
theorem Td.tk {H H' : Hp} (k : Tk H H') : ∀ {v : V} {d : PyData}, Td H v d → Td H' v d
  | _, _, .non => .non
  | _, _, .bl b => .bl b
  | _, _, .int i => .int i
  | _, _, .str z => .str z
  | _, _, .tup h r => .tup (k _ _ h) (Tds.tk k r)
theorem Tds.tk {H H' : Hp} (k : Tk H H') : ∀ {vs : List V} {ds : List PyData}, Tds H vs ds → Tds H' vs ds
  | _, _, .nil => .nil
  | _, _, .cons h r => .cons (Td.tk k h) (Tds.tk k r)
end
mutual
theorem Td.at {H : Hp} {L : List Addr} (l : ∀ a xs, H a = some (.tup xs) → a ∉ L) : ∀ {v : V} {d : PyData}, Td H v d → At H L v d
  | _, _, .non => .non
  | _, _, .bl b => .bl b
  | _, _, .int i => .int i
  | _, _, .str z => .str z
  | _, _, .tup h r => .tup (l _ _ h) h (Tds.at l r)
theorem Tds.at {H : Hp} {L : List Addr} (l : ∀ a xs, H a = some (.tup xs) → a ∉ L) : ∀ {vs : List V} {ds : List PyData}, Tds H vs ds → Ats H L vs ds
  | _, _, .nil => .nil
  | _, _, .cons h r => .cons (Td.at l h) (Tds.at l r)
end
theorem Td.at0 {H : Hp} {v : V} {d : PyData} (h : Td H v d) : At H [] v d := h.at fun _ _ _ z => by simp at z
theorem td_new {H : Hp} {p : Addr} {o : HO} {v : V} {d : PyData} (hp : Fr H p) (h : Td H v d) : Td (upd H p o) v d := h.tk (tk_new hp)
theorem td_same {H H' : Hp} {v : V} {d : PyData} (k : Same H H') (h : Td H v d) : Td H' v d := h.tk (Same.tk k)
theorem td_tup {H : Hp} {a : Addr} {xs : List V} {ds : List PyData} (h : H a = some (.tup xs)) (r : Tds H xs ds) : Td H (.ref a) (.tuple ds) := .tup h r
theorem tds_cons {H : Hp} {v : V} {vs : List V} {d : PyData} {ds : List PyData} (h : Td H v d) (r : Tds H vs ds) : Tds H (v :: vs) (d :: ds) := .cons h r
theorem Td.dp {K : PySem.W.Frag} {H : Hp} {v : V} {d : PyData} (h : Td H v d) : Dp K H v d := h.at0.dp
/-! ### the length of what is shown -/
/-- may be shown: by so many signs, so deep -/
structure Sho (k m : Nat) (d : PyData) : Prop where
  sh : d.showable = true
  nd : d.hasDict = false
  dp : d.depth ≤ k
  sz : d.shown.length ≤ m
/-! YK: kinds of rules, their classes; what the rules' defs promise. -/
open PySem PySem.Spec PyProof.Rows L2
/-- the words of rules -/
inductive Wd | price | come | go | least | most | deal | fee
  deriving DecidableEq
def Wd.cls : Wd → Str
  | .price => "Price" | .come => "Come" | .go => "Go" | .least => "Least" | .most => "Most" | .deal => "Deal" | .fee => "Fee"
def Wd.word : Wd → Str
  | .price => "price" | .come => "come" | .go => "go" | .least => "least" | .most => "most" | .deal => "deal" | .fee => "fee"
abbrev aC (K : PySem.W.Frag) (w : Wd) : Addr := He.ga K w.cls
theorem Wd.mem (w : Wd) : w.cls ∈ ruleCls := by cases w <;> decide
def CFR (K : PySem.W.Frag) : Prop := exRules K = true
section
variable {K : PySem.W.Frag} (c : CFR K)
include c
theorem CFR.one (w : Wd) : ((He.Fa.cls w.cls).ok K && ((["first", "last", "worth"] : List Str).all (fun f => (He.Fa.noat w.cls f).ok K) && (tyB K (He.ga K w.cls) && isiB K w.cls "Rule" true))) = true :=
  List.all_eq_true.mp (He.ba c).1 _ w.mem
theorem CFR.cls (w : Wd) : Cls K (aC K w) := He.cls_ok (He.ba (CFR.one c w)).1
theorem CFR.no (w : Wd) {f : Str} (h : f ∈ (["first", "last", "worth"] : List Str)) : NoAttr K (aC K w) f := He.noat_ok (List.all_eq_true.mp (He.ba (He.ba (CFR.one c w)).2).1 f h)
theorem CFR.words (H : Hp) : SqT K H (He.ga K "WORDS") (wordsL.map V.str) := by
  have h := He.tupB_ok (He.ba (He.ba c).2).2 H
  rw [List.map_map] at h
  exact h
end
/-! ### data of rules -/
def isW : PyData → Bool
  | .int _ => true
  | _ => false
def isDay : PyData → Bool
  | .int i => decide (0 ≤ i) && decide (i ≤ 1000000)
  | _ => false
def is2 : PyData → Bool
  | .tuple [a, b] => isDay a && isDay b
  | _ => false
def isStr : PyData → Bool
  | .tuple [.int a, .int b] => isDay (.int a) && (isDay (.int b) && decide (a ≤ b))
  | _ => false
def isCoins : PyData → Bool
  | .int i => decide (0 ≤ i) && decide (i ≤ 1000000000000)
  | _ => false
def isNights : PyData → Bool
  | .int i => decide (1 ≤ i) && decide (i ≤ 14)
  | _ => false
def isNone : PyData → Bool
  | .none => true
  | _ => false
def isBool : PyData → Bool
  | .bool _ => true
  | _ => false
def isDeal : PyData → Bool
  | .none => true
  | .tuple [a, .int f] => isNights a && (match a with | .int m => decide (1 ≤ f) && decide (f < m) | _ => false)
  | _ => false
def fitsD : Wd → PyData → Bool
  | .price, d => isNone d || isCoins d
  | .come, d => isBool d
  | .go, d => isBool d
  | .least, d => isNights d
  | .most, d => isNights d
  | .deal, d => isDeal d
  | .fee, d => isCoins d
structure RuleD where
  w : Wd
  f : Int
  l : Int
  d : PyData
def RuleD.told (r : RuleD) : PyData := .tuple [.str r.w.word, .int r.f, .int r.l, r.d]
def RuleD.good (r : RuleD) : Prop := 0 ≤ r.f ∧ r.f ≤ r.l ∧ r.l ≤ 1000000 ∧ fitsD r.w r.d = true
/-- a rule's object -/
def RuleAt (K : PySem.W.Frag) (H : Hp) (v : V) (r : RuleD) : Prop := ∃ (a dx : Addr) (wv : V), v = .ref a ∧ H a = some (.ins (aC K r.w) dx [("first", .int r.f), ("last", .int r.l), ("worth", wv)]) ∧ Td H wv r.d
/-! ### promises -/
def sp_is_whole (K : PySem.W.Frag) : Sp := Sp1 fun x H Q E => ∃ d, At H [] x d ∧ Q (.bl (isW d)) H
theorem g_is_whole {K : PySem.W.Frag} {H : Hp} {Q : VK} {E : XK} {x : V} {d : PyData} (h : At H [] x d) (q : Q (.bl (isW d)) H) : sp_is_whole K ([x] ++ []) H Q E := ⟨x, rfl, d, h, q⟩
def sp_is_day (K : PySem.W.Frag) : Sp := Sp1 fun x H Q E => ∃ d, At H [] x d ∧ Q (.bl (isDay d)) H
theorem g_is_day {K : PySem.W.Frag} {H : Hp} {Q : VK} {E : XK} {x : V} {d : PyData} (h : At H [] x d) (q : Q (.bl (isDay d)) H) : sp_is_day K ([x] ++ []) H Q E := ⟨x, rfl, d, h, q⟩
def sp_is_two_days (K : PySem.W.Frag) : Sp := Sp1 fun x H Q E => ∃ d, At H [] x d ∧ Q (.bl (is2 d)) H
theorem g_is_two_days {K : PySem.W.Frag} {H : Hp} {Q : VK} {E : XK} {x : V} {d : PyData} (h : At H [] x d) (q : Q (.bl (is2 d)) H) : sp_is_two_days K ([x] ++ []) H Q E := ⟨x, rfl, d, h, q⟩
def sp_is_stretch (K : PySem.W.Frag) : Sp := Sp1 fun x H Q E => ∃ d, At H [] x d ∧ Q (.bl (isStr d)) H
theorem g_is_stretch {K : PySem.W.Frag} {H : Hp} {Q : VK} {E : XK} {x : V} {d : PyData} (h : At H [] x d) (q : Q (.bl (isStr d)) H) : sp_is_stretch K ([x] ++ []) H Q E := ⟨x, rfl, d, h, q⟩
def sp_is_coins (K : PySem.W.Frag) : Sp := Sp1 fun x H Q E => ∃ d, At H [] x d ∧ Q (.bl (isCoins d)) H
theorem g_is_coins {K : PySem.W.Frag} {H : Hp} {Q : VK} {E : XK} {x : V} {d : PyData} (h : At H [] x d) (q : Q (.bl (isCoins d)) H) : sp_is_coins K ([x] ++ []) H Q E := ⟨x, rfl, d, h, q⟩
def sp_is_nights (K : PySem.W.Frag) : Sp := Sp1 fun x H Q E => ∃ d, At H [] x d ∧ Q (.bl (isNights d)) H
theorem g_is_nights {K : PySem.W.Frag} {H : Hp} {Q : VK} {E : XK} {x : V} {d : PyData} (h : At H [] x d) (q : Q (.bl (isNights d)) H) : sp_is_nights K ([x] ++ []) H Q E := ⟨x, rfl, d, h, q⟩
theorem and_t {a b : Bool} {Q : VK} {H : Hp} (h : a = true) (q : Q (.bl (a && b)) H) : Q (.bl b) H := by rwa [h, Bool.true_and] at q
theorem and_f {a b : Bool} {Q : VK} {H : Hp} (h : a = false) (q : Q (.bl (a && b)) H) : Q (.bl false) H := by rwa [h, Bool.false_and] at q
/-! YJ: rules' objects: their fields, their making, their methods. -/
open PySem PySem.Spec PyProof.Rows L2
/-- an object of the class of w with these three fields -/
def InsAt (K : PySem.W.Frag) (H : Hp) (v : V) (w : Wd) (x y z : V) : Prop := ∃ a dx, v = .ref a ∧ H a = some (.ins (aC K w) dx [("first", x), ("last", y), ("worth", z)])
/-- all that is no list stays -/
def Nk (H H' : Hp) : Prop := ∀ a o, H a = some o → (∀ xs, o ≠ .lst xs) → H' a = some o
theorem Nk.trans {H H1 H2 : Hp} (a : Nk H H1) (b : Nk H1 H2) : Nk H H2 := fun c o h n => b c o (a c o h n) n
theorem Same.nk {H H' : Hp} (e : Same H H') : Nk H H' := fun a o h _ => e _ _ h
theorem Nk.tk {H H' : Hp} (k : Nk H H') : Tk H H' := fun a xs h => k a _ h fun ys z => by cases z
theorem nk_new {H : Hp} {p : Addr} {o : HO} (h : Fr H p) : Nk H (upd H p o) := Same.nk (same_new h)
theorem nk_put {H : Hp} {p : Addr} {o : HO} {zs : List V} (h : H p = some (.lst zs)) : Nk H (upd H p o) := fun a u e n => at_ne (fun z => by rw [z, h] at e; cases e; exact n _ rfl) e
section
variable {K : PySem.W.Frag} {H H' : Hp} {v x y z : V} {w : Wd} {r : RuleD}
theorem InsAt.nk (k : Nk H H') (h : InsAt K H v w x y z) : InsAt K H' v w x y z := let ⟨a, dx, e, h⟩ := h; ⟨a, dx, e, k _ _ h fun xs q => by cases q⟩
theorem ins_put {p : Addr} {o : HO} {zs : List V} (hp : H p = some (.lst zs)) (h : InsAt K H v w x y z) : InsAt K (upd H p o) v w x y z := h.nk (nk_put hp)
end
theorem RuleAt.ins {K : PySem.W.Frag} {H : Hp} {v : V} {r : RuleD} (h : RuleAt K H v r) : ∃ wv, InsAt K H v r.w (.int r.f) (.int r.l) wv ∧ Td H wv r.d := let ⟨a, dx, wv, e, h, q⟩ := h; ⟨wv, ⟨a, dx, e, h⟩, q⟩
theorem RuleAt.of {K : PySem.W.Frag} {H : Hp} {v : V} {r : RuleD} {wv : V} (h : InsAt K H v r.w (.int r.f) (.int r.l) wv) (q : Td H wv r.d) : RuleAt K H v r := let ⟨a, dx, e, h⟩ := h; ⟨a, dx, wv, e, h, q⟩
/-! ### readings -/
/-- a method of whichever rule's class -/
def tRule (K : PySem.W.Frag) (m : Str) (sp : Wd → Sp) (ta : TE) (t : TA) : TE := fun σ H Q => ∃ w : Wd, tMeth (aC K w) m (sp w) [] E0 ta t σ H Q
theorem pe_rule {X : Cx} {e : Expr} {m : Str} {sp : Wd → Sp} {ta : TE} {t : TA} (h : ∀ w, PE X e (tMeth (aC X.K w) m (sp w) [] E0 ta t)) : PE X e (tRule X.K m sp ta t) := ⟨fun pins s σ H Q I q => let ⟨w, q⟩ := q; (h w).run pins s σ H Q I q⟩
theorem g_rule {K : PySem.W.Frag} {m : Str} {sp : Wd → Sp} {t : TA} {n : Nat} {σ : L2.St} {H : Hp} {Q : VK} {v x y z : V} {w : Wd} (h : σ[n]? = some (some v)) (i : InsAt K H v w x y z) (no : ([("first", x), ("last", y), ("worth", z)] : List (Str × V)).lookup m = none)
    (q : t σ H fun vs H2 => sp w (v :: (vs ++ [])) H2 Q E0) : tRule K m sp (tVar n) t σ H Q := by
  obtain ⟨a, dx, rfl, e⟩ := i
  exact ⟨w, _, h, a, dx, _, rfl, e, no, q⟩
theorem g_fld {K : PySem.W.Frag} {f : Str} {n : Nat} {σ : L2.St} {H : Hp} {Q : VK} {v x y z u : V} {w : Wd} (c : CFR K) (h : σ[n]? = some (some v)) (i : InsAt K H v w x y z) (m : f ∈ (["first", "last", "worth"] : List Str))
    (l : ([("first", x), ("last", y), ("worth", z)] : List (Str × V)).lookup f = some u) (q : Q u H) : tFld K (tVar n) f σ H Q := by
  obtain ⟨a, dx, rfl, e⟩ := i
  exact ⟨_, h, a, _, dx, _, u, rfl, e, CFR.cls c w, CFR.no c w m, l, q⟩
theorem g_first {K : PySem.W.Frag} {n : Nat} {σ : L2.St} {H : Hp} {Q : VK} {v x y z : V} {w : Wd} (c : CFR K) (h : σ[n]? = some (some v)) (i : InsAt K H v w x y z) (q : Q x H) : tFld K (tVar n) "first" σ H Q := g_fld c h i (by decide) rfl q
theorem g_last {K : PySem.W.Frag} {n : Nat} {σ : L2.St} {H : Hp} {Q : VK} {v x y z : V} {w : Wd} (c : CFR K) (h : σ[n]? = some (some v)) (i : InsAt K H v w x y z) (q : Q y H) : tFld K (tVar n) "last" σ H Q := g_fld c h i (by decide) rfl q
theorem g_worth {K : PySem.W.Frag} {n : Nat} {σ : L2.St} {H : Hp} {Q : VK} {v x y z : V} {w : Wd} (c : CFR K) (h : σ[n]? = some (some v)) (i : InsAt K H v w x y z) (q : Q z H) : tFld K (tVar n) "worth" σ H Q := g_fld c h i (by decide) rfl q
/-! ### isinstance -/
/-! ### promises -/
def sp_Rule_init (K : PySem.W.Frag) : Sp := Sp4 fun v x y z H Q E => CFR K ∧ ∃ (a dx : Addr) (w : Wd), v = .ref a ∧ H a = some (.ins (aC K w) dx []) ∧ Q .non (upd H a (.ins (aC K w) dx [("first", x), ("last", y), ("worth", z)]))
def rMake (C : Addr) (sp : Sp) (dvs : List V) (E : XK) (vs : List V) (H1 : Hp) (Q : VK) : Prop := ∀ x dx, H1 x = none → H1 dx = none → dx ≠ x → sp (.ref x :: (vs ++ dvs)) (upd (upd H1 dx (.own x)) x (.ins C dx [])) (fun v H2 => v = .non ∧ Q (.ref x) H2) E
theorem g_tMake {C : Addr} {sp : Sp} {dvs : List V} {E : XK} {t : TA} {σ : L2.St} {H : Hp} {Q : VK} (h : t σ H fun vs H1 => rMake C sp dvs E vs H1 Q) : tMake C sp dvs E t σ H Q := h
theorem g_mkRule {K : PySem.W.Frag} {E : XK} {H : Hp} {Q : VK} {x y z : V} (w : Wd) (c : CFR K) (q : ∀ v H', Same H H' → InsAt K H' v w x y z → Q v H') : rMake (aC K w) (sp_Rule_init K) [] E [x, y, z] H Q := by
  intro a dx ha hd hne
  have h1 : upd H dx (.own a) a = none := by rw [upd_ne hne.symm]; exact ha
  refine ⟨_, _, _, _, rfl, c, a, dx, w, rfl, upd_same, rfl, q _ _ ?_ ⟨a, dx, rfl, upd_same⟩⟩
  rw [upd_upd]
  exact (same_new hd).trans (same_new h1)
theorem g_mkPrice {K : PySem.W.Frag} {E : XK} {H : Hp} {Q : VK} {x y z : V} (c : CFR K) (q : ∀ v H', Same H H' → InsAt K H' v .price x y z → Q v H') : rMake (He.ga K "Price") (sp_Rule_init K) [] E [x, y, z] H Q := g_mkRule .price c q
theorem g_mkCome {K : PySem.W.Frag} {E : XK} {H : Hp} {Q : VK} {x y z : V} (c : CFR K) (q : ∀ v H', Same H H' → InsAt K H' v .come x y z → Q v H') : rMake (He.ga K "Come") (sp_Rule_init K) [] E [x, y, z] H Q := g_mkRule .come c q
theorem g_mkGo {K : PySem.W.Frag} {E : XK} {H : Hp} {Q : VK} {x y z : V} (c : CFR K) (q : ∀ v H', Same H H' → InsAt K H' v .go x y z → Q v H') : rMake (He.ga K "Go") (sp_Rule_init K) [] E [x, y, z] H Q := g_mkRule .go c q
theorem g_mkLeast {K : PySem.W.Frag} {E : XK} {H : Hp} {Q : VK} {x y z : V} (c : CFR K) (q : ∀ v H', Same H H' → InsAt K H' v .least x y z → Q v H') : rMake (He.ga K "Least") (sp_Rule_init K) [] E [x, y, z] H Q := g_mkRule .least c q
theorem g_mkMost {K : PySem.W.Frag} {E : XK} {H : Hp} {Q : VK} {x y z : V} (c : CFR K) (q : ∀ v H', Same H H' → InsAt K H' v .most x y z → Q v H') : rMake (He.ga K "Most") (sp_Rule_init K) [] E [x, y, z] H Q := g_mkRule .most c q
theorem g_mkDeal {K : PySem.W.Frag} {E : XK} {H : Hp} {Q : VK} {x y z : V} (c : CFR K) (q : ∀ v H', Same H H' → InsAt K H' v .deal x y z → Q v H') : rMake (He.ga K "Deal") (sp_Rule_init K) [] E [x, y, z] H Q := g_mkRule .deal c q
theorem g_mkFee {K : PySem.W.Frag} {E : XK} {H : Hp} {Q : VK} {x y z : V} (c : CFR K) (q : ∀ v H', Same H H' → InsAt K H' v .fee x y z → Q v H') : rMake (He.ga K "Fee") (sp_Rule_init K) [] E [x, y, z] H Q := g_mkRule .fee c q
def sp_word (K : PySem.W.Frag) (w : Wd) : Sp := Sp1 fun x H Q E => Q (.str w.word) H
theorem g_word {K : PySem.W.Frag} {w : Wd} {v : V} {H : Hp} {Q : VK} {E : XK} (q : Q (.str w.word) H) : sp_word K w (v :: ([] ++ [])) H Q E := ⟨v, rfl, q⟩
abbrev sp_Price_word (K : PySem.W.Frag) : Sp := sp_word K .price
abbrev sp_Come_word (K : PySem.W.Frag) : Sp := sp_word K .come
abbrev sp_Go_word (K : PySem.W.Frag) : Sp := sp_word K .go
abbrev sp_Least_word (K : PySem.W.Frag) : Sp := sp_word K .least
abbrev sp_Most_word (K : PySem.W.Frag) : Sp := sp_word K .most
abbrev sp_Deal_word (K : PySem.W.Frag) : Sp := sp_word K .deal
abbrev sp_Fee_word (K : PySem.W.Frag) : Sp := sp_word K .fee
def sp_fits (K : PySem.W.Frag) (w : Wd) : Sp := Sp1 fun v H Q E => CFR K ∧ ∃ x y z d, InsAt K H v w x y z ∧ At H [] z d ∧ Q (.bl (fitsD w d)) H
theorem g_fits {K : PySem.W.Frag} {w : Wd} {v x y z : V} {d : PyData} {H : Hp} {Q : VK} {E : XK} (c : CFR K) (i : InsAt K H v w x y z) (h : At H [] z d) (q : Q (.bl (fitsD w d)) H) : sp_fits K w (v :: ([] ++ [])) H Q E := ⟨v, rfl, c, x, y, z, d, i, h, q⟩
abbrev sp_Price_fits (K : PySem.W.Frag) : Sp := sp_fits K .price
abbrev sp_Come_fits (K : PySem.W.Frag) : Sp := sp_fits K .come
abbrev sp_Go_fits (K : PySem.W.Frag) : Sp := sp_fits K .go
abbrev sp_Least_fits (K : PySem.W.Frag) : Sp := sp_fits K .least
abbrev sp_Most_fits (K : PySem.W.Frag) : Sp := sp_fits K .most
abbrev sp_Deal_fits (K : PySem.W.Frag) : Sp := sp_fits K .deal
abbrev sp_Fee_fits (K : PySem.W.Frag) : Sp := sp_fits K .fee
/-- the rule's tuple: a new one -/
def sp_Rule_told (K : PySem.W.Frag) : Sp := Sp1 fun v H Q E => CFR K ∧ ∃ w x y z, InsAt K H v w x y z ∧ ∀ p H', Same H H' → Fr H p → H' p = some (.tup [.str w.word, x, y, z]) → Q (.ref p) H'
abbrev sp_told (K : PySem.W.Frag) (_ : Wd) : Sp := sp_Rule_told K
theorem g_told {K : PySem.W.Frag} {w u : Wd} {v x y z : V} {H : Hp} {Q : VK} {E : XK} (c : CFR K) (i : InsAt K H v w x y z) (q : ∀ p H', Same H H' → Fr H p → H' p = some (.tup [.str w.word, x, y, z]) → Q (.ref p) H') : sp_told K u (v :: ([] ++ [])) H Q E := ⟨v, rfl, c, w, x, y, z, i, q⟩
def sp_Rule_tells (K : PySem.W.Frag) : Sp := Sp2 fun v u H Q E => CFR K ∧ ∃ w f l z d, InsAt K H v w (.int f) (.int l) z ∧ u = .int d ∧ Q (.bl (decide (f ≤ d) && decide (d ≤ l))) H
abbrev sp_tells (K : PySem.W.Frag) (_ : Wd) : Sp := sp_Rule_tells K
theorem g_tells {K : PySem.W.Frag} {w u : Wd} {v z : V} {f l d : Int} {H : Hp} {Q : VK} {E : XK} (c : CFR K) (i : InsAt K H v w (.int f) (.int l) z) (q : Q (.bl (decide (f ≤ d) && decide (d ≤ l))) H) : sp_tells K u (v :: ([.int d] ++ [])) H Q E := ⟨v, _, rfl, c, w, f, l, z, d, i, rfl, q⟩
def sp_made (K : PySem.W.Frag) : Sp := Sp4 fun u x y z H Q E => CFR K ∧ ∃ w : Wd, u = .str w.word ∧ ∀ v H', Same H H' → InsAt K H' v w x y z → Q v H'
theorem g_made {K : PySem.W.Frag} {w : Wd} {x y z : V} {H : Hp} {Q : VK} {E : XK} (c : CFR K) (q : ∀ v H', Same H H' → InsAt K H' v w x y z → Q v H') : sp_made K ([.str w.word, x, y, z] ++ []) H Q E := ⟨_, _, _, _, rfl, c, w, rfl, q⟩
def wordOf (z : Str) : Option Wd := [Wd.price, .come, .go, .least, .most, .deal, .fee].find? fun w => decide (w.word = z)
/-- the rule that data tell -/
def asRule : PyData → Option RuleD
  | .tuple [.str z, .int f, .int l, d] => match wordOf z with
    | some w => if (isStr (.tuple [.int f, .int l]) && fitsD w d) = true then some ⟨w, f, l, d⟩ else none
    | none => none
  | _ => none
def sp_rule_of (K : PySem.W.Frag) : Sp := Sp1 fun x H Q E => CFR K ∧ ∃ d, At H [] x d ∧ (asRule d = none → ∀ H', Same H H' → Q .non H') ∧ ∀ r, asRule d = some r → ∀ v H', Same H H' → RuleAt K H' v r → Q v H'
theorem g_rule_of {K : PySem.W.Frag} {x : V} {d : PyData} {H : Hp} {Q : VK} {E : XK} (c : CFR K) (h : At H [] x d) (q1 : asRule d = none → ∀ H', Same H H' → Q .non H') (q2 : ∀ r, asRule d = some r → ∀ v H', Same H H' → RuleAt K H' v r → Q v H') : sp_rule_of K ([x] ++ []) H Q E := ⟨x, rfl, c, d, h, q1, q2⟩
theorem wordOf_word (w : Wd) : wordOf w.word = some w := by cases w <;> decide
theorem asRule_told {r : RuleD} (h : r.good) : asRule r.told = some r := by
  obtain ⟨h1, h2, h3, h4⟩ := h
  unfold asRule RuleD.told
  simp only [wordOf_word]
  rw [if_pos]
  rw [h4, Bool.and_true]
  show (isDay (.int r.f) && (isDay (.int r.l) && decide (r.f ≤ r.l))) = true
  unfold isDay
  simp
  omega
/-- a rule's tuple -/
def RuT (H : Hp) (v : V) (r : RuleD) : Prop := ∃ p wv, v = .ref p ∧ H p = some (.tup [.str r.w.word, .int r.f, .int r.l, wv]) ∧ Td H wv r.d
theorem RuT.tk {H H' : Hp} {v : V} {r : RuleD} (k : Tk H H') (h : RuT H v r) : RuT H' v r := let ⟨p, wv, e, h, q⟩ := h; ⟨p, wv, e, k _ _ h, q.tk k⟩
theorem RuT.td {H : Hp} {v : V} {r : RuleD} (h : RuT H v r) : Td H v r.told := by
  obtain ⟨p, wv, rfl, h, q⟩ := h
  exact .tup h (.cons (.str _) (.cons (.int _) (.cons (.int _) (.cons q .nil))))
/-! YI: the rules' defs keep what they promise. -/
open PySem PySem.Spec PyProof.Rows L2
theorem isDeal_no {ds : List PyData} (h : ds.length ≠ 2) : isDeal (.tuple ds) = false := by
  match ds, h with
  | [], _ => rfl
  | [_], _ => rfl
  | [_, _], h => exact absurd rfl h
  | _ :: b :: _ :: _, _ => cases b <;> rfl
theorem isDeal_n {a b : PyData} (h : isNights a = false) : isDeal (.tuple [a, b]) = false := by
  cases b <;> first | rfl | (show (isNights a && _) = false; rw [h]; rfl)
theorem isDeal_w {a b : PyData} (h : isW b = false) : isDeal (.tuple [a, b]) = false := by
  cases b <;> first | rfl | cases h
theorem isNights_int {d : PyData} (h : isNights d = true) : ∃ i, d = .int i := by
  cases d with
  | int i => exact ⟨i, rfl⟩
  | _ => cases h
theorem isW_int {d : PyData} (h : isW d = true) : ∃ i, d = .int i := by
  cases d with
  | int i => exact ⟨i, rfl⟩
  | _ => cases h
theorem ats2' {H : Hp} {L : List Addr} {xs : List V} {ds : List PyData} (r : Ats H L xs ds) (h : xs.length = 2) : ∃ x y a b, xs = [x, y] ∧ ds = [a, b] ∧ At H L x a ∧ At H L y b := by
  match xs, ds, r, h with
  | [x, y], [a, b], .cons h1 (.cons h2 .nil), _ => exact ⟨x, y, a, b, rfl, rfl, h1, h2⟩
theorem ats4 {H : Hp} {L : List Addr} {xs : List V} {ds : List PyData} (r : Ats H L xs ds) (h : xs.length = 4) : ∃ x y z u a b c d, xs = [x, y, z, u] ∧ ds = [a, b, c, d] ∧ At H L x a ∧ At H L y b ∧ At H L z c ∧ At H L u d := by
  match xs, ds, r, h with
  | [x, y, z, u], [a, b, c, d], .cons h1 (.cons h2 (.cons h3 (.cons h4 .nil))), _ => exact ⟨x, y, z, u, a, b, c, d, rfl, rfl, h1, h2, h3, h4⟩
theorem asRule_no {ds : List PyData} (h : ds.length ≠ 4) : asRule (.tuple ds) = none := by
  unfold asRule
  split
  · rename_i e
    injection e with e
    subst e
    exact absurd rfl h
  · rfl
theorem asRule_w {z : Str} {b c d : PyData} (h : wordOf z = none) : asRule (.tuple [.str z, b, c, d]) = none := by
  unfold asRule
  split
  · rename_i z' f l d' e
    injection e with e
    injection e with e1 e
    injection e1 with e1
    subst e1
    rw [h]
  · rfl
theorem asRule_s {z : Str} {b c d : PyData} (h : isStr (.tuple [b, c]) = false) : asRule (.tuple [.str z, b, c, d]) = none := by
  unfold asRule
  split
  · rename_i z' f l d' e
    injection e with e
    injection e with e1 e
    injection e with e2 e
    injection e with e3 e
    subst e2 e3
    split
    · rw [h, Bool.false_and, if_neg Bool.false_ne_true]
    · rfl
  · rfl
theorem isStr_int {b c : PyData} (h : isStr (.tuple [b, c]) = true) : ∃ f l, b = .int f ∧ c = .int l := by
  unfold isStr at h
  split at h
  · rename_i f l e
    injection e with e
    injection e with e1 e
    injection e with e2 e
    exact ⟨f, l, e1, e2⟩
  · cases h
theorem any_find {α : Type} (p : α → Bool) : ∀ l : List α, l.any p = (l.find? p).isSome
  | [] => rfl
  | a :: l => by
    rw [List.any_cons, List.find?_cons, any_find p l]
    cases p a <;> simp
theorem inV_words (z : Str) : inV (.str z) (wordsL.map V.str) = (wordOf z).isSome := by
  have e : wordsL = [Wd.price, .come, .go, .least, .most, .deal, .fee].map Wd.word := rfl
  unfold inV wordOf
  rw [e, List.map_map, List.any_map, ← any_find]
  congr 1
theorem wordOf_some {z : Str} {w : Wd} (h : wordOf z = some w) : z = w.word := by
  have := List.find?_some h
  exact (of_decide_eq_true this).symm
theorem td_of_fits {H : Hp} {v : V} {w : Wd} {d : PyData} (h : At H [] v d) (k : fitsD w d = true) : Td H v d := by
  cases h with
  | non => exact .non
  | bl b => exact .bl b
  | int i => exact .int i
  | str z => exact .str z
  | lst n h r => cases w <;> cases k
  | @tup a xs ds n h r =>
    have hd : isDeal (.tuple ds) = true := by cases w <;> first | exact k | cases k
    by_cases hl : ds.length = 2
    · obtain ⟨x, y, p, q, rfl, rfl, hx, hy⟩ := ats2' r (by rw [Ats.len r]; exact hl)
      have hp : isNights p = true := by
        cases e : isNights p with
        | true => rfl
        | false => rw [isDeal_n e] at hd; cases hd
      have hq : isW q = true := by
        cases e : isW q with
        | true => rfl
        | false => rw [isDeal_w e] at hd; cases hd
      obtain ⟨i, rfl⟩ := isNights_int hp
      obtain ⟨j, rfl⟩ := isW_int hq
      cases hx
      cases hy
      exact .tup h (.cons (.int i) (.cons (.int j) .nil))
    · rw [isDeal_no hl] at hd; cases hd
def t_Rule_init (K : PySem.W.Frag) : TS :=
  (tSeq (sFld K (tVar 0) (tVar 1) "first")
  (tSeq (sFld K (tVar 0) (tVar 2) "last")
  (sFld K (tVar 0) (tVar 3) "worth")))
theorem pure_Rule_init {K : PySem.W.Frag} {v x y z : V} {H : Hp} {Q : VK} {E : XK} (h : sp_Rule_init K [v, x, y, z] H Q E) : t_Rule_init K { nx := fun _ H' => Q .non H', rt := Q } [some v, some x, some y, some z] H := by
  obtain ⟨v, x, y, z, e, c, a, dx, w, rfl, h, q⟩ := h
  cases e
  have n1 := CFR.no c w (f := "first") (by decide)
  have n2 := CFR.no c w (f := "last") (by decide)
  have n3 := CFR.no c w (f := "worth") (by decide)
  refine ⟨x, rfl, _, rfl, a, _, dx, _, rfl, h, CFR.cls c w, n1, (show (0 : Nat) < 1000 by decide), y, rfl, _, rfl, a, _, dx, _, rfl, upd_same, CFR.cls c w, n2, (show (1 : Nat) < 1000 by decide), z, rfl, _, rfl, a, _, dx, _, rfl, upd_same, CFR.cls c w, n3, (show (2 : Nat) < 1000 by decide), ?_⟩
  rw [upd_upd, upd_upd]
  exact q
def t_Rule_told (K : PySem.W.Frag) : TS :=
  (tRet (tTup (tCons (tRule K "word" (sp_word K) (tVar 0) tNil) (tCons (tFld K (tVar 0) "first") (tCons (tFld K (tVar 0) "last") (tCons (tFld K (tVar 0) "worth") tNil))))))
theorem pure_Rule_told {K : PySem.W.Frag} {v : V} {H : Hp} {Q : VK} {E : XK} (h : sp_Rule_told K [v] H Q E) : t_Rule_told K { nx := fun _ H' => Q .non H', rt := Q } [some v] H := by
  obtain ⟨v, e, c, w, x, y, z, i, q⟩ := h
  cases e
  unfold t_Rule_told
  walk_at "ss"
  rename_i p hp
  exact q p _ (same_new hp) hp upd_same
def t_Rule_tells (K : PySem.W.Frag) : TS :=
  (tRet (tChain rLe rLe (tFld K (tVar 0) "first") (tVar 1) (tFld K (tVar 0) "last")))
theorem pure_Rule_tells {K : PySem.W.Frag} {v u : V} {H : Hp} {Q : VK} {E : XK} (h : sp_Rule_tells K [v, u] H Q E) : t_Rule_tells K { nx := fun _ H' => Q .non H', rt := Q } [some v, some u] H := by
  obtain ⟨v, u, e, c, w, f, l, z, d, i, rfl, q⟩ := h
  cases e
  unfold t_Rule_tells
  walk_at "ss"
  refine ite_b (fun h1 => ?_) fun h1 => ?_
  · walk_at "ss"
    exact and_t h1 q
  · exact and_f h1 q
def t_Price_word (K : PySem.W.Frag) : TS :=
  (tRet (tC (.str "price")))
theorem pure_Price_word {K : PySem.W.Frag} {v : V} {H : Hp} {Q : VK} {E : XK} (h : sp_Price_word K [v] H Q E) : t_Price_word K { nx := fun _ H' => Q .non H', rt := Q } [some v] H := by
  obtain ⟨v, e, q⟩ := h
  cases e
  exact q
def t_Come_word (K : PySem.W.Frag) : TS :=
  (tRet (tC (.str "come")))
theorem pure_Come_word {K : PySem.W.Frag} {v : V} {H : Hp} {Q : VK} {E : XK} (h : sp_Come_word K [v] H Q E) : t_Come_word K { nx := fun _ H' => Q .non H', rt := Q } [some v] H := by
  obtain ⟨v, e, q⟩ := h
  cases e
  exact q
def t_Go_word (K : PySem.W.Frag) : TS :=
  (tRet (tC (.str "go")))
theorem pure_Go_word {K : PySem.W.Frag} {v : V} {H : Hp} {Q : VK} {E : XK} (h : sp_Go_word K [v] H Q E) : t_Go_word K { nx := fun _ H' => Q .non H', rt := Q } [some v] H := by
  obtain ⟨v, e, q⟩ := h
  cases e
  exact q
def t_Least_word (K : PySem.W.Frag) : TS :=
  (tRet (tC (.str "least")))
theorem pure_Least_word {K : PySem.W.Frag} {v : V} {H : Hp} {Q : VK} {E : XK} (h : sp_Least_word K [v] H Q E) : t_Least_word K { nx := fun _ H' => Q .non H', rt := Q } [some v] H := by
  obtain ⟨v, e, q⟩ := h
  cases e
  exact q
def t_Most_word (K : PySem.W.Frag) : TS :=
  (tRet (tC (.str "most")))
theorem pure_Most_word {K : PySem.W.Frag} {v : V} {H : Hp} {Q : VK} {E : XK} (h : sp_Most_word K [v] H Q E) : t_Most_word K { nx := fun _ H' => Q .non H', rt := Q } [some v] H := by
  obtain ⟨v, e, q⟩ := h
  cases e
  exact q
def t_Deal_word (K : PySem.W.Frag) : TS :=
  (tRet (tC (.str "deal")))
theorem pure_Deal_word {K : PySem.W.Frag} {v : V} {H : Hp} {Q : VK} {E : XK} (h : sp_Deal_word K [v] H Q E) : t_Deal_word K { nx := fun _ H' => Q .non H', rt := Q } [some v] H := by
  obtain ⟨v, e, q⟩ := h
  cases e
  exact q
def t_Fee_word (K : PySem.W.Frag) : TS :=
  (tRet (tC (.str "fee")))
theorem pure_Fee_word {K : PySem.W.Frag} {v : V} {H : Hp} {Q : VK} {E : XK} (h : sp_Fee_word K [v] H Q E) : t_Fee_word K { nx := fun _ H' => Q .non H', rt := Q } [some v] H := by
  obtain ⟨v, e, q⟩ := h
  cases e
  exact q
def t_Price_fits (K : PySem.W.Frag) : TS :=
  (tRet (tOrV (tOp rIsN (tFld K (tVar 0) "worth") (tC .non)) (tCall (sp_is_coins K) [] E0 (tCons (tFld K (tVar 0) "worth") tNil))))
theorem pure_Price_fits {K : PySem.W.Frag} {v : V} {H : Hp} {Q : VK} {E : XK} (h : sp_Price_fits K [v] H Q E) : t_Price_fits K { nx := fun _ H' => Q .non H', rt := Q } [some v] H := by
  obtain ⟨v, e, c, x, y, z, d, i, h, q⟩ := h
  cases e
  unfold t_Price_fits
  walk_at "ss"
  cases h with
  | non =>
    refine ite_t rfl ?_
    exact q
  | _ =>
    refine ite_f rfl ?_
    walk_at "ss"
    exact q
def t_Come_fits (K : PySem.W.Frag) : TS :=
  (tRet (tCB (rIsi K) (tCons (tFld K (tVar 0) "worth") (tCons (tC (.ty "bool")) tNil))))
theorem pure_Come_fits {K : PySem.W.Frag} {v : V} {H : Hp} {Q : VK} {E : XK} (h : sp_Come_fits K [v] H Q E) : t_Come_fits K { nx := fun _ H' => Q .non H', rt := Q } [some v] H := by
  obtain ⟨v, e, c, x, y, z, d, i, h, q⟩ := h
  cases e
  unfold t_Come_fits
  walk_at "ss"
  cases h <;> (walk_at "ss"; exact q)
def t_Go_fits (K : PySem.W.Frag) : TS :=
  (tRet (tCB (rIsi K) (tCons (tFld K (tVar 0) "worth") (tCons (tC (.ty "bool")) tNil))))
theorem pure_Go_fits {K : PySem.W.Frag} {v : V} {H : Hp} {Q : VK} {E : XK} (h : sp_Go_fits K [v] H Q E) : t_Go_fits K { nx := fun _ H' => Q .non H', rt := Q } [some v] H := by
  obtain ⟨v, e, c, x, y, z, d, i, h, q⟩ := h
  cases e
  unfold t_Go_fits
  walk_at "ss"
  cases h <;> (walk_at "ss"; exact q)
def t_Least_fits (K : PySem.W.Frag) : TS :=
  (tRet (tCall (sp_is_nights K) [] E0 (tCons (tFld K (tVar 0) "worth") tNil)))
theorem pure_Least_fits {K : PySem.W.Frag} {v : V} {H : Hp} {Q : VK} {E : XK} (h : sp_Least_fits K [v] H Q E) : t_Least_fits K { nx := fun _ H' => Q .non H', rt := Q } [some v] H := by
  obtain ⟨v, e, c, x, y, z, d, i, h, q⟩ := h
  cases e
  unfold t_Least_fits
  walk_at "ss"
  exact q
def t_Most_fits (K : PySem.W.Frag) : TS :=
  (tRet (tCall (sp_is_nights K) [] E0 (tCons (tFld K (tVar 0) "worth") tNil)))
theorem pure_Most_fits {K : PySem.W.Frag} {v : V} {H : Hp} {Q : VK} {E : XK} (h : sp_Most_fits K [v] H Q E) : t_Most_fits K { nx := fun _ H' => Q .non H', rt := Q } [some v] H := by
  obtain ⟨v, e, c, x, y, z, d, i, h, q⟩ := h
  cases e
  unfold t_Most_fits
  walk_at "ss"
  exact q
def t_Deal_fits (K : PySem.W.Frag) : TS :=
  (tSeq (tIfS (tTest (tOp rIsN (tFld K (tVar 0) "worth") (tC .non)))
  (tRet (tC (.bl true)))
  tNext)
  (tSeq (tIfS (tOr (tNot (tB (tCB (rIsi K) (tCons (tFld K (tVar 0) "worth") (tCons (tC (.ty "tuple")) tNil))))) (tTest (tOp rNe (tCB (rLenA K) (tCons (tFld K (tVar 0) "worth") tNil)) (tC (.int 2)))))
  (tRet (tC (.bl false)))
  tNext)
  (tSeq (tAsg (tFld K (tVar 0) "worth") (gTup K 2 (gCons (gName 1) (gCons (gName 2) gNil))))
  (tRet (tAndV (tCall (sp_is_nights K) [] E0 (tCons (tVar 1) tNil)) (tAndV (tCall (sp_is_whole K) [] E0 (tCons (tVar 2) tNil)) (tChain rLe rLt (tC (.int 1)) (tVar 2) (tVar 1))))))))
theorem pure_Deal_fits {K : PySem.W.Frag} {v : V} {H : Hp} {Q : VK} {E : XK} (h : sp_Deal_fits K [v] H Q E) : t_Deal_fits K { nx := fun _ H' => Q .non H', rt := Q } [some v, none, none] H := by
  obtain ⟨v, e, c, x, y, z, d, i, h, q⟩ := h
  cases e
  unfold t_Deal_fits
  walk_at "ss"
  cases h with
  | non =>
    refine ite_t rfl ?_
    exact q
  | tup n h r =>
    refine ite_f rfl ?_
    walk_at "ss"
    refine g_lenA (.inr ⟨_, SqT.of h, rfl⟩) ?_
    walk_at "ss"
    refine ite_nd (fun h1 => ?_) fun h1 => ?_
    · have hl := V.int.inj h1
      obtain ⟨x', y', a, b, rfl, rfl, hx, hy⟩ := ats2' r (by omega)
      walk_at "ss"
      refine ite_b (fun h2 => ?_) fun h2 => ?_
      · walk_at "ss"
        refine ite_b (fun h3 => ?_) fun h3 => ?_
        · obtain ⟨m, rfl⟩ := isNights_int h2
          obtain ⟨f, rfl⟩ := isW_int h3
          cases hx
          cases hy
          have q' : Q (.bl (isNights (.int m) && (decide (1 ≤ f) && decide (f < m)))) H := q
          rw [h2, Bool.true_and] at q'
          walk_at "ss"
          refine ite_b (fun h4 => ?_) fun h4 => ?_
          · walk_at "ss"
            exact and_t h4 q'
          · exact and_f h4 q'
        · have e : fitsD .deal (.tuple [a, b]) = false := isDeal_w h3
          rw [e] at q
          exact q
      · have e : fitsD .deal (.tuple [a, b]) = false := isDeal_n h2
        rw [e] at q
        exact q
    · have e : fitsD .deal (.tuple _) = false := isDeal_no (ds := _) fun z => h1 (by rw [Ats.len r, z]; rfl)
      rw [e] at q
      walk_at "ss"
      exact q
  | _ =>
    refine ite_f rfl ?_
    walk_at "ss"
    exact q
def t_Fee_fits (K : PySem.W.Frag) : TS :=
  (tRet (tCall (sp_is_coins K) [] E0 (tCons (tFld K (tVar 0) "worth") tNil)))
theorem pure_Fee_fits {K : PySem.W.Frag} {v : V} {H : Hp} {Q : VK} {E : XK} (h : sp_Fee_fits K [v] H Q E) : t_Fee_fits K { nx := fun _ H' => Q .non H', rt := Q } [some v] H := by
  obtain ⟨v, e, c, x, y, z, d, i, h, q⟩ := h
  cases e
  unfold t_Fee_fits
  walk_at "ss"
  exact q
def t_made (K : PySem.W.Frag) : TS :=
  (tSeq (tIfS (tTest (tOp rEq (tVar 0) (tC (.str "price"))))
  (tRet (tMake (He.ga K "Price") (sp_Rule_init K) [] E0 (tCons (tVar 1) (tCons (tVar 2) (tCons (tVar 3) tNil)))))
  tNext)
  (tSeq (tIfS (tTest (tOp rEq (tVar 0) (tC (.str "come"))))
  (tRet (tMake (He.ga K "Come") (sp_Rule_init K) [] E0 (tCons (tVar 1) (tCons (tVar 2) (tCons (tVar 3) tNil)))))
  tNext)
  (tSeq (tIfS (tTest (tOp rEq (tVar 0) (tC (.str "go"))))
  (tRet (tMake (He.ga K "Go") (sp_Rule_init K) [] E0 (tCons (tVar 1) (tCons (tVar 2) (tCons (tVar 3) tNil)))))
  tNext)
  (tSeq (tIfS (tTest (tOp rEq (tVar 0) (tC (.str "least"))))
  (tRet (tMake (He.ga K "Least") (sp_Rule_init K) [] E0 (tCons (tVar 1) (tCons (tVar 2) (tCons (tVar 3) tNil)))))
  tNext)
  (tSeq (tIfS (tTest (tOp rEq (tVar 0) (tC (.str "most"))))
  (tRet (tMake (He.ga K "Most") (sp_Rule_init K) [] E0 (tCons (tVar 1) (tCons (tVar 2) (tCons (tVar 3) tNil)))))
  tNext)
  (tSeq (tIfS (tTest (tOp rEq (tVar 0) (tC (.str "deal"))))
  (tRet (tMake (He.ga K "Deal") (sp_Rule_init K) [] E0 (tCons (tVar 1) (tCons (tVar 2) (tCons (tVar 3) tNil)))))
  tNext)
  (tRet (tMake (He.ga K "Fee") (sp_Rule_init K) [] E0 (tCons (tVar 1) (tCons (tVar 2) (tCons (tVar 3) tNil)))))))))))
theorem pure_made {K : PySem.W.Frag} {u x y z : V} {H : Hp} {Q : VK} {E : XK} (h : sp_made K [u, x, y, z] H Q E) : t_made K { nx := fun _ H' => Q .non H', rt := Q } [some u, some x, some y, some z] H := by
  obtain ⟨u, x, y, z, e, c, w, rfl, q⟩ := h
  cases e
  unfold t_made
  cases w <;> (walk_at "ss"; repeat (first | (refine ite_dt rfl ?_; walk_at "ss") | (refine ite_df (by decide) ?_; walk_at "ss"))) <;> exact q _ _ (by assumption) (by assumption)
def t_rule_of (K : PySem.W.Frag) : TS :=
  (tSeq (tIfS (tOr (tNot (tB (tCB (rIsi K) (tCons (tVar 0) (tCons (tC (.ty "tuple")) tNil))))) (tOr (tTest (tOp rNe (tCB (rLen K) (tCons (tVar 0) tNil)) (tC (.int 4)))) (tOr (tNot (tB (tCB (rIsi K) (tCons (tOp (rIxT K) (tVar 0) (tC (.int 0))) (tCons (tC (.ty "str")) tNil))))) (tTest (tOp (rIn K true) (tOp (rIxT K) (tVar 0) (tC (.int 0))) (tC (.ref (He.ga K "WORDS"))))))))
  (tRet (tC .non))
  tNext)
  (tSeq (tIfS (tNot (tB (tCall (sp_is_stretch K) [] E0 (tCons (tTup (tCons (tOp (rIxT K) (tVar 0) (tC (.int 1))) (tCons (tOp (rIxT K) (tVar 0) (tC (.int 2))) tNil))) tNil))))
  (tRet (tC .non))
  tNext)
  (tSeq (tAsg (tCall (sp_made K) [] E0 (tCons (tOp (rIxT K) (tVar 0) (tC (.int 0))) (tCons (tOp (rIxT K) (tVar 0) (tC (.int 1))) (tCons (tOp (rIxT K) (tVar 0) (tC (.int 2))) (tCons (tOp (rIxT K) (tVar 0) (tC (.int 3))) tNil))))) (gName 1))
  (tSeq (tIfS (tNot (tB (tRule K "fits" (sp_fits K) (tVar 1) tNil)))
  (tRet (tC .non))
  tNext)
  (tRet (tVar 1))))))
theorem pure_rule_of {K : PySem.W.Frag} {x : V} {H : Hp} {Q : VK} {E : XK} (h : sp_rule_of K [x] H Q E) : t_rule_of K { nx := fun _ H' => Q .non H', rt := Q } [some x, none] H := by
  obtain ⟨x, e, c, d, h, q1, q2⟩ := h
  cases e
  unfold t_rule_of
  cases h with
  | tup n h r =>
    walk_at "ss"
    refine ite_nd (fun h1 => ?_) fun h1 => ?_
    · have hl := V.int.inj h1
      obtain ⟨x0, x1, x2, x3, a0, a1, a2, a3, rfl, rfl, k0, k1, k2, k3⟩ := ats4 r (by omega)
      cases k0 with
      | str z =>
        walk_at "ss"
        refine ⟨_, _, rfl, .inr (CFR.words c _), rfl, by decide, ?_⟩
        rw [inV_words]
        walk_at "ss"
        cases ew : wordOf z with
        | none =>
          refine ite_t rfl ?_
          walk_at "ss"
          exact q1 (asRule_w ew) _ (Same.refl _)
        | some w =>
          obtain rfl := wordOf_some ew
          refine ite_f rfl ?_
          walk_at "ss"
          rename_i p hp
          refine ite_b (fun h4 => ?_) fun h4 => ?_
          · walk_at "ss"
            exact q1 (asRule_s (by simpa using h4)) _ (same_new hp)
          · have h5 : isStr (.tuple [a1, a2]) = true := by simpa using h4
            obtain ⟨f, l, rfl, rfl⟩ := isStr_int h5
            cases k1
            cases k2
            walk_at "ss"
            refine g_made c fun v H' hs hi => ?_
            walk_at "ss"
            have eR : asRule (.tuple [.str w.word, .int f, .int l, a3]) = if (isStr (.tuple [.int f, .int l]) && fitsD w a3) = true then some ⟨w, f, l, a3⟩ else none := by
              unfold asRule
              simp only [ew]
            rw [h5, Bool.true_and] at eR
            refine ite_b (fun h6 => ?_) fun h6 => ?_
            · walk_at "ss"
              refine q1 ?_ _ (by walk_at "sm")
              rw [eR, if_neg (by simpa using h6)]
            · walk_at "ss"
              have h7 : fitsD w a3 = true := by simpa using h6
              refine q2 ⟨w, f, l, a3⟩ ?_ v _ (by walk_at "sm") (RuleAt.of hi (td_of_fits (by walk_at "ad") h7))
              rw [eR, if_pos h7]
      | _ =>
        walk_at "ss"
        exact q1 rfl _ (Same.refl _)
    · walk_at "ss"
      exact q1 (asRule_no fun z => h1 (by rw [Ats.len r, z]; rfl)) _ (Same.refl _)
  | _ =>
    walk_at "ss"
    exact q1 rfl _ (Same.refl _)
/-! YQ: books in the heap. -/
open PySem PySem.Spec PyProof.Rows L2
/-- what is told of the class of books -/
def CFB (K : PySem.W.Frag) : Prop := exBook K = true
theorem CFB.cls {K : PySem.W.Frag} (c : CFB K) : Cls K (He.ga K "Book") := He.cls_ok (He.ba c).1
theorem CFB.no {K : PySem.W.Frag} (c : CFB K) {f : Str} (h : f ∈ (["kept", "newest"] : List Str)) : NoAttr K (He.ga K "Book") f := He.noat_ok (List.all_eq_true.mp (He.ba (He.ba c).2).1 f h)
/-- objects and tuples stay -/
structure Ik (H H' : Hp) : Prop where
  ins : ∀ a C dx fs, H a = some (.ins C dx fs) → H' a = some (.ins C dx fs)
  tup : Tk H H'
theorem Ik.trans {H H1 H2 : Hp} (a : Ik H H1) (b : Ik H1 H2) : Ik H H2 := ⟨fun x C dx fs h => b.ins x C dx fs (a.ins x C dx fs h), a.tup.trans b.tup⟩
theorem Same.ik {H H' : Hp} (e : Same H H') : Ik H H' := ⟨fun a C dx fs h => e _ _ h, Same.tk e⟩
theorem Nk.ik {H H' : Hp} (k : Nk H H') : Ik H H' := ⟨fun a C dx fs h => k _ _ h (fun xs e => by cases e), k.tk⟩
theorem ik_dic {H : Hp} {p : Addr} {o : HO} {kvs : List (Key × V)} (h : H p = some (.dK kvs)) : Ik H (upd H p o) :=
  ⟨fun a C dx fs e => at_ne (fun z => by rw [z, h] at e; cases e) e, fun a xs e => at_ne (fun z => by rw [z, h] at e; cases e) e⟩
theorem RuleAt.ik {K : PySem.W.Frag} {H H' : Hp} {v : V} {r : RuleD} (k : Ik H H') (h : RuleAt K H v r) : RuleAt K H' v r := let ⟨a, dx, wv, e, h, q⟩ := h; ⟨a, dx, wv, e, k.ins _ _ _ _ h, q.tk k.tup⟩
abbrev RulesAt (K : PySem.W.Frag) (H : Hp) : List V → List RuleD → Prop := Paired (RuleAt K H)
theorem RulesAt.ik {K : PySem.W.Frag} {H H' : Hp} {xs : List V} {rs : List RuleD} (k : Ik H H') (h : RulesAt K H xs rs) : RulesAt K H' xs rs := Paired.mapP h fun _ _ q => q.ik k
/-- the rules of a word, the newest first -/
def newestOf (rs : List RuleD) (w : Wd) : List RuleD := (rs.filter fun r => decide (r.w = w)).reverse
theorem newest_snoc (rs : List RuleD) (r : RuleD) (w : Wd) : newestOf (rs ++ [r]) w = if r.w = w then r :: newestOf rs w else newestOf rs w := by
  unfold newestOf
  rw [List.filter_append, List.reverse_append]
  by_cases h : r.w = w <;> simp [h]
/-- a book's parts -/
structure BookIn (K : PySem.W.Frag) (H : Hp) (a dx lk nd : Addr) (kvs : List (Key × V)) (nw : Wd → Option Addr) (rs : List RuleD) : Prop where
  obj : H a = some (.ins (He.ga K "Book") dx [("kept", .ref lk), ("newest", .ref nd)])
  kept : ∃ ks, H lk = some (.lst ks) ∧ RulesAt K H ks rs
  dic : H nd = some (.dK kvs)
  small : kvs.length ≤ rs.length
  key : ∀ w : Wd, valV kvs (.inr w.word) = (nw w).map V.ref
  here : ∀ w l, nw w = some l → ∃ xs, H l = some (.lst xs) ∧ RulesAt K H xs (newestOf rs w)
  none' : ∀ w, nw w = none → newestOf rs w = []
  inj : ∀ w w' l, nw w = some l → nw w' = some l → w = w'
  ne : ∀ w l, nw w = some l → l ≠ lk
theorem Wd.word_inj {w v : Wd} (h : w.word = v.word) : w = v := by
  have h1 := wordOf_word w
  rw [h, wordOf_word] at h1
  exact (Option.some.inj h1).symm
/-- one more rule -/
theorem BookIn.step {K : PySem.W.Frag} {H H' : Hp} {a dx lk nd l : Addr} {kvs kvs' : List (Key × V)} {nw : Wd → Option Addr} {rs : List RuleD} {r : RuleD} {v : V} {ks xs : List V} (B : BookIn K H a dx lk nd kvs nw rs) (hv : RuleAt K H' v r) (ik : Ik H H')
    (hk : H lk = some (.lst ks)) (hk' : H' lk = some (.lst (ks ++ [v]))) (dic : H' nd = some (.dK kvs')) (small : kvs'.length ≤ rs.length + 1)
    (key : ∀ w : Wd, valV kvs' (.inr w.word) = if w = r.w then some (.ref l) else valV kvs (.inr w.word))
    (hl' : H' l = some (.lst (v :: xs))) (hl : (nw r.w = some l ∧ H l = some (.lst xs)) ∨ (nw r.w = none ∧ xs = [] ∧ l ≠ lk ∧ ∀ w, nw w ≠ some l))
    (oth : ∀ w p, w ≠ r.w → nw w = some p → ∀ ys, H p = some (.lst ys) → H' p = some (.lst ys)) :
    BookIn K H' a dx lk nd kvs' (fun w => if w = r.w then some l else nw w) (rs ++ [r]) := by
  obtain ⟨ks0, hk0, hks⟩ := B.kept
  obtain rfl : ks0 = ks := by rw [hk] at hk0; cases hk0; rfl
  have hxs : RulesAt K H' xs (newestOf rs r.w) := by
    rcases hl with ⟨h1, h2⟩ | ⟨h1, h2, -⟩
    · obtain ⟨ys, h3, h4⟩ := B.here _ _ h1
      rw [h2] at h3
      cases h3
      exact h4.ik ik
    · rw [h2, B.none' _ h1]
      exact .nil
  have lne : l ≠ lk := by
    rcases hl with ⟨h1, -⟩ | ⟨-, -, h3, -⟩
    · exact B.ne _ _ h1
    · exact h3
  have lother : ∀ w, w ≠ r.w → nw w ≠ some l := fun w hw e => by
    rcases hl with ⟨h1, -⟩ | ⟨-, -, -, h4⟩
    · exact hw (B.inj _ _ _ e h1)
    · exact h4 w e
  refine ⟨ik.ins _ _ _ _ B.obj, ⟨_, hk', Paired.snoc (hks.ik ik) hv⟩, dic, by rw [List.length_append]; exact small, fun w => ?_, fun w p hp => ?_, fun w hw => ?_, fun w w' p h1 h2 => ?_, fun w p hp => ?_⟩
  · rw [key]
    by_cases h : w = r.w
    · rw [if_pos h, if_pos h]; rfl
    · rw [if_neg h, if_neg h, B.key]
  · by_cases h : w = r.w
    · rw [if_pos h] at hp
      cases hp
      subst h
      refine ⟨_, hl', ?_⟩
      rw [newest_snoc, if_pos rfl]
      exact .cons hv hxs
    · rw [if_neg h] at hp
      obtain ⟨ys, h3, h4⟩ := B.here _ _ hp
      refine ⟨ys, oth w p h hp ys h3, ?_⟩
      rw [newest_snoc, if_neg (Ne.symm h)]
      exact h4.ik ik
  · by_cases h : w = r.w
    · rw [if_pos h] at hw; cases hw
    · rw [if_neg h] at hw
      rw [newest_snoc, if_neg (Ne.symm h)]
      exact B.none' _ hw
  · by_cases e1 : w = r.w
    · by_cases e2 : w' = r.w
      · rw [e1, e2]
      · rw [if_pos e1] at h1
        rw [if_neg e2] at h2
        cases h1
        exact absurd h2 (lother _ e2)
    · rw [if_neg e1] at h1
      by_cases e2 : w' = r.w
      · rw [if_pos e2] at h2
        cases h2
        exact absurd h1 (lother _ e1)
      · rw [if_neg e2] at h2
        exact B.inj _ _ _ h1 h2
  · by_cases e1 : w = r.w
    · rw [if_pos e1] at hp
      cases hp
      exact lne
    · rw [if_neg e1] at hp
      exact B.ne _ _ hp
/-- the lists of a book -/
def BookF (lk : Addr) (nw : Wd → Option Addr) : List Addr := lk :: [Wd.price, .come, .go, .least, .most, .deal, .fee].filterMap nw
theorem bookF_mem {lk : Addr} {nw : Wd → Option Addr} {w : Wd} {l : Addr} (h : nw w = some l) : l ∈ BookF lk nw := by
  refine List.mem_cons_of_mem _ (List.mem_filterMap.mpr ⟨w, ?_, h⟩)
  cases w <;> simp
/-- a book; F: its lists -/
def BookAt (K : PySem.W.Frag) (H : Hp) (F : List Addr) (v : V) (rs : List RuleD) : Prop := ∃ a dx lk nd kvs nw, v = .ref a ∧ F = BookF lk nw ∧ BookIn K H a dx lk nd kvs nw rs
theorem BookAt.mono {K : PySem.W.Frag} {H H' : Hp} {F : List Addr} {v : V} {rs : List RuleD} (k : Nk H H') (l : ∀ p ∈ F, ∀ xs, H p = some (.lst xs) → H' p = some (.lst xs)) (h : BookAt K H F v rs) : BookAt K H' F v rs := by
  obtain ⟨a, dx, lk, nd, kvs, nw, rfl, rfl, B⟩ := h
  obtain ⟨ks, h1, h2⟩ := B.kept
  have ik := k.ik
  refine ⟨a, dx, lk, nd, kvs, nw, rfl, rfl, ik.ins _ _ _ _ B.obj, ⟨ks, l _ (by simp [BookF]) _ h1, h2.ik ik⟩, k _ _ B.dic (fun xs e => by cases e), B.small, B.key, fun w p hp => ?_, B.none', B.inj, B.ne⟩
  obtain ⟨xs, h3, h4⟩ := B.here w p hp
  exact ⟨xs, l _ (bookF_mem hp) _ h3, h4.ik ik⟩
theorem bk_same {K : PySem.W.Frag} {H H' : Hp} {F : List Addr} {v : V} {rs : List RuleD} (k : Same H H') (h : BookAt K H F v rs) : BookAt K H' F v rs := h.mono (Same.nk k) fun p _ xs e => k _ _ e
/-! YS: what a book's defs promise, and that they keep it. -/
open PySem PySem.Spec PyProof.Rows L2
theorem find_at {α : Type} {p : α → Bool} : ∀ {l : List α} {i : Nat} {r : α}, (∀ x ∈ l.take i, p x = false) → l[i]? = some r → p r = true → l.find? p = some r
  | [], _, _, _, e, _ => by simp at e
  | a :: l, 0, r, _, e, h => by
    simp at e
    subst e
    rw [List.find?_cons, h]
  | a :: l, i + 1, r, n, e, h => by
    rw [List.find?_cons, n a (by simp)]
    exact find_at (i := i) (fun x hx => n x (by simp [hx])) (by simpa using e) h
/-- a raise that is never reached -/
def tNever : TS := fun _ _ _ => False
theorem ps_never {X : Cx} {s : Stmt} : PS X s tNever := ⟨fun _ _ _ _ _ _ h => h.elim⟩
def usualD : Wd → PyData
  | .price => .none | .come => .bool true | .go => .bool true | .least => .int 1 | .most => .int 14 | .deal => .none | .fee => .int 0
def usualV : Wd → V
  | .price => .non | .come => .bl true | .go => .bl true | .least => .int 1 | .most => .int 14 | .deal => .non | .fee => .int 0
theorem usual_td (H : Hp) (w : Wd) : Td H (usualV w) (usualD w) := by
  cases w
  · exact .non
  · exact .bl true
  · exact .bl true
  · exact .int 1
  · exact .int 14
  · exact .non
  · exact .int 0
def tellsD (rs : List RuleD) (w : Wd) (day : Int) : PyData := match (newestOf rs w).find? fun r => decide (r.f ≤ day) && decide (day ≤ r.l) with
  | some r => r.d
  | none => usualD w
def sp_usual (K : PySem.W.Frag) : Sp := Sp1 fun x H Q E => ∃ w : Wd, x = .str w.word ∧ Q (usualV w) H
theorem g_usual {K : PySem.W.Frag} {w : Wd} {H : Hp} {Q : VK} {E : XK} (q : Q (usualV w) H) : sp_usual K ([.str w.word] ++ []) H Q E := ⟨_, rfl, w, rfl, q⟩
def sp_Book_rules (K : PySem.W.Frag) : Sp := Sp1 fun v H Q E => CFR K ∧ CFB K ∧ ∃ F rs, BookAt K H F v rs ∧ rs.length ≤ 1000 ∧ ∀ p H' ys, Same H H' → Fr H p → H' p = some (.lst ys) → Paired (RuT H') ys rs → Q (.ref p) H'
theorem g_brules {K : PySem.W.Frag} {F : List Addr} {rs : List RuleD} {v : V} {H : Hp} {Q : VK} {E : XK} (c : CFR K) (cb : CFB K) (b : BookAt K H F v rs) (l : rs.length ≤ 1000) (q : ∀ p H' ys, Same H H' → Fr H p → H' p = some (.lst ys) → Paired (RuT H') ys rs → Q (.ref p) H') : sp_Book_rules K (v :: ([] ++ [])) H Q E := ⟨_, rfl, c, cb, F, rs, b, l, q⟩
def sp_Book_tells_of (K : PySem.W.Frag) : Sp := Sp3 fun v u y H Q E => CFR K ∧ CFB K ∧ ∃ F rs w day, BookAt K H F v rs ∧ u = .str w.word ∧ y = .int day ∧ ∀ x H', Same H H' → Td H' x (tellsD rs w day) → Q x H'
theorem g_tells_of {K : PySem.W.Frag} {F : List Addr} {rs : List RuleD} {w : Wd} {day : Int} {v : V} {H : Hp} {Q : VK} {E : XK} (c : CFR K) (cb : CFB K) (b : BookAt K H F v rs) (q : ∀ x H', Same H H' → Td H' x (tellsD rs w day) → Q x H') : sp_Book_tells_of K (v :: ([.str w.word, .int day] ++ [])) H Q E := ⟨_, _, _, rfl, c, cb, F, rs, w, day, b, rfl, rfl, q⟩
def sp_Book_init (K : PySem.W.Frag) : Sp := Sp2 fun v y H Q E => CFR K ∧ CFB K ∧ ∃ (a dx : Addr) (xs : List V) (rs : List RuleD), v = .ref a ∧ H a = some (.ins (He.ga K "Book") dx []) ∧ ((y = .non ∧ xs = []) ∨ ∃ p, y = .ref p ∧ SqL K H p xs) ∧ Paired (RuT H) xs rs ∧ rs.length ≤ 24 ∧ (∀ r ∈ rs, RuleD.good r) ∧
  ∀ H' F, Kp [a] H H' → BookAt K H' F v rs → (∀ p ∈ F, Fr H p) → Q .non H'
theorem g_mkBook {K : PySem.W.Frag} {E : XK} {H : Hp} {Q : VK} {vs dvs : List V} {y : V} {xs : List V} {rs : List RuleD} (c : CFR K) (cb : CFB K) (e : vs ++ dvs = [y]) (h : (y = .non ∧ xs = []) ∨ ∃ p, y = .ref p ∧ SqL K H p xs) (hp : Paired (RuT H) xs rs) (hl : rs.length ≤ 24) (hg : ∀ r ∈ rs, RuleD.good r)
    (q : ∀ v F H', Same H H' → BookAt K H' F v rs → (∀ p ∈ F, Fr H p) → Q v H') : rMake (He.ga K "Book") (sp_Book_init K) dvs E vs H Q := by
  intro a dx ha hd hne
  have h1 : upd H dx (.own a) a = none := by rw [upd_ne hne.symm]; exact ha
  have sm : Same H (upd (upd H dx (.own a)) a (.ins (He.ga K "Book") dx [])) := (same_new hd).trans (same_new h1)
  rw [e]
  refine ⟨_, _, rfl, c, cb, a, dx, xs, rs, rfl, upd_same, ?_, Paired.mapP hp fun _ _ r => r.tk (Same.tk sm), hl, hg, fun H' F k b f => ⟨rfl, q _ F H' (fun p o z => ?_) b fun p hp => Same.free sm (f p hp)⟩⟩
  · rcases h with h | ⟨p, h1, h2⟩
    · exact .inl h
    · exact .inr ⟨p, h1, Same.seq sm h2⟩
  · refine k _ _ (sm _ _ z) fun m => ?_
    rw [List.mem_singleton.mp m, ha] at z
    cases z
theorem g_bmeth {K : PySem.W.Frag} {m : Str} {sp : Sp} {t : TA} {n : Nat} {σ : L2.St} {H : Hp} {Q : VK} {v : V} {F : List Addr} {rs : List RuleD} (h : σ[n]? = some (some v)) (b : BookAt K H F v rs) (no : decide (m = "kept") = false ∧ decide (m = "newest") = false)
    (q : t σ H fun vs H2 => sp (v :: (vs ++ [])) H2 Q E0) : tMeth (He.ga K "Book") m sp [] E0 (tVar n) t σ H Q := by
  obtain ⟨a, dx, lk, nd, kvs, nw, rfl, rfl, B⟩ := b
  refine ⟨_, h, a, dx, _, rfl, B.obj, ?_, q⟩
  have h1 : (m == ("kept" : Str)) = false := beq_eq_false_iff_ne.mpr (of_decide_eq_false no.1)
  have h2 : (m == ("newest" : Str)) = false := beq_eq_false_iff_ne.mpr (of_decide_eq_false no.2)
  simp only [List.lookup, h1, h2]
theorem g_bfld {K : PySem.W.Frag} {f : Str} {n : Nat} {σ : L2.St} {H : Hp} {Q : VK} {a dx : Addr} {u x y : V} (cb : CFB K) (h : σ[n]? = some (some (.ref a))) (o : H a = some (.ins (He.ga K "Book") dx [("kept", x), ("newest", y)])) (m : f ∈ (["kept", "newest"] : List Str))
    (l : ([("kept", x), ("newest", y)] : List (Str × V)).lookup f = some u) (q : Q u H) : tFld K (tVar n) f σ H Q := ⟨_, h, a, _, dx, _, u, rfl, o, CFB.cls cb, CFB.no cb m, l, q⟩
/-- a field is written -/
def rSF (K : PySem.W.Frag) (f : Str) (x y : V) (H2 : Hp) (Q : Hp → Prop) : Prop := ∃ a C dx fs, x = .ref a ∧ H2 a = some (.ins C dx fs) ∧ Cls K C ∧ NoAttr K C f ∧ fs.length < 1000 ∧ Q (upd H2 a (.ins C dx (putF f y fs)))
theorem g_sFld {K : PySem.W.Frag} {ta tv : TE} {f : Str} {D : Ends} {σ : L2.St} {H : Hp} (q : tv σ H fun y H1 => ta σ H1 fun x H2 => rSF K f x y H2 fun H3 => D.nx σ H3) : sFld K ta tv f D σ H := q
theorem g_bset {K : PySem.W.Frag} {f : Str} {a dx : Addr} {fs : List (Str × V)} {y : V} {H : Hp} {Q : Hp → Prop} (cb : CFB K) (h : H a = some (.ins (He.ga K "Book") dx fs)) (m : f ∈ (["kept", "newest"] : List Str)) (l : fs.length < 1000) (q : Q (upd H a (.ins (He.ga K "Book") dx (putF f y fs)))) : rSF K f (.ref a) y H Q :=
  ⟨a, _, dx, fs, rfl, h, CFB.cls cb, CFB.no cb m, l, q⟩
theorem g_insert0 {H : Hp} {Q : VK} {l : Addr} {xs : List V} {y : V} (h : H l = some (.lst xs)) (z : xs.length < sizeLine) (q : Q .non (upd H l (.lst (y :: xs)))) : rInsert (.ref l) [.int 0, y] H Q :=
  ⟨l, xs, 0, y, rfl, rfl, h, z, by decide, by decide, by simpa using q⟩
theorem g_dSetd {td ty tx : TE} {σ : L2.St} {H : Hp} {Q : VK} (q : td σ H fun x H1 => ∃ a, x = .ref a ∧ IsD H1 a ∧ ty σ H1 fun y H2 => tx σ H2 fun z H3 => ∃ (kvs : List (Key × V)) (k : Key), H3 a = some (.dK kvs) ∧ y = kV k ∧ kvs.length < sizeLine ∧
  (∀ v, valV kvs k = some v → Q v H3) ∧ (valV kvs k = none → Q z (upd H3 a (.dK (putK kvs k z))))) : tDSetd td ty tx σ H Q := q
theorem g_iEnum {K : PySem.W.Frag} {σ : L2.St} {H : Hp} {ta : TA} {R : It → Hp → Prop} (h : ta σ H fun vs H1 => ∃ a xs, vs = [.ref a] ∧ SqL K H1 a xs ∧ R (Ite K a) H1) : iEnum K ta σ H R := h
theorem g_rule_ofG {K : PySem.W.Frag} {x : V} {r : RuleD} {H : Hp} {Q : VK} {E : XK} (c : CFR K) (h : RuT H x r) (g : r.good) (q : ∀ v H', Same H H' → RuleAt K H' v r → Q v H') : sp_rule_of K ([x] ++ []) H Q E :=
  g_rule_of c h.td.at0 (fun e => by rw [asRule_told g] at e; cases e) fun r' e v H' s hv => by
    rw [asRule_told g] at e
    cases e
    exact q v H' s hv
def t_usual (K : PySem.W.Frag) : TS :=
  (tSeq (tIfS (tOr (tTest (tOp rEq (tVar 0) (tC (.str "come")))) (tTest (tOp rEq (tVar 0) (tC (.str "go")))))
  (tRet (tC (.bl true)))
  tNext)
  (tSeq (tIfS (tTest (tOp rEq (tVar 0) (tC (.str "least"))))
  (tRet (tC (.int 1)))
  tNext)
  (tSeq (tIfS (tTest (tOp rEq (tVar 0) (tC (.str "most"))))
  (tRet (tC (.int 14)))
  tNext)
  (tSeq (tIfS (tTest (tOp rEq (tVar 0) (tC (.str "fee"))))
  (tRet (tC (.int 0)))
  tNext)
  (tRet (tC .non))))))
theorem pure_usual {K : PySem.W.Frag} {x : V} {H : Hp} {Q : VK} {E : XK} (h : sp_usual K [x] H Q E) : t_usual K { nx := fun _ H' => Q .non H', rt := Q } [some x] H := by
  obtain ⟨x, e, w, rfl, q⟩ := h
  cases e
  unfold t_usual
  cases w <;> (walk_at "ss"; repeat (first | (refine ite_dt rfl ?_; walk_at "ss") | (refine ite_df (by decide) ?_; walk_at "ss"))) <;> exact q
def t_Book_rules (K : PySem.W.Frag) : TS :=
  (tRet (tLc (iList K (tFld K (tVar 0) "kept")) (gName 1) tYes (tRule K "told" (sp_told K) (tVar 1) tNil) [1]))
theorem pure_Book_rules {K : PySem.W.Frag} {v : V} {H : Hp} {Q : VK} {E : XK} (h : sp_Book_rules K [v] H Q E) : t_Book_rules K { nx := fun _ H' => Q .non H', rt := Q } [some v, none] H := by
  obtain ⟨v, e, c, cb, F, rs, ⟨a, dx, lk, nd, kvs, nw, rfl, rfl, B⟩, hl, q⟩ := h
  cases e
  obtain ⟨ks, hk, hks⟩ := B.kept
  unfold t_Book_rules
  walk_at "ss"
  refine g_bfld cb rfl B.obj (by decide) rfl ?_
  walk_at "ss"
  have hlen := Paired.length hks
  refine lc_r (walk_list (K := K) (a := lk) (xs := ks)) RuT (fun _ _ _ _ e h => h.tk e) (fun i => rs[i]?) (by omega) (fun H' s => SqL.of (s _ _ hk)) ?_ ?_
  · rintro D i x H2 H3 N hD hi s2 ⟨rfl, hx⟩ hN _
    obtain ⟨r, hr, hv⟩ := Paired.getL hks hx
    obtain ⟨wv, hi, hwv⟩ := (hv.ik (Same.ik s2)).ins
    walk_at "ss"
    rename_i p H4 s4 f4 h4
    exact hN _ r _ hr s4 ⟨p, wv, rfl, h4, by walk_at "td"⟩
  intro D H2 ys hD s2 h2 hp
  walk_at "ss"
  refine q D H2 ys s2 hD h2 ?_
  have e : (List.range ks.length).filterMap (fun i => rs[i]?) = rs := by
    rw [hlen]
    have := range_flt rs some
    simpa using this
  rwa [e] at hp
def t_Book_tells_of (K : PySem.W.Frag) : TS :=
  (tSeq (tFor (iList K (tDGet2 (tFld K (tVar 0) "newest") (tVar 1) (tLst tNil))) (gName 3)
  (tIfS (tB (tRule K "tells" (sp_tells K) (tVar 3) (tCons (tVar 2) tNil)))
  (tRet (tFld K (tVar 3) "worth"))
  tNext))
  (tRet (tCall (sp_usual K) [] E0 (tCons (tVar 1) tNil))))
theorem pure_Book_tells_of {K : PySem.W.Frag} {v u y : V} {H : Hp} {Q : VK} {E : XK} (h : sp_Book_tells_of K [v, u, y] H Q E) : t_Book_tells_of K { nx := fun _ H' => Q .non H', rt := Q } [some v, some u, some y, none] H := by
  obtain ⟨v, u, y, e, c, cb, F, rs, w, day, ⟨a, dx, lk, nd, kvs, nw, rfl, rfl, B⟩, rfl, rfl, q⟩ := h
  cases e
  unfold t_Book_tells_of
  refine g_seqF ?_
  refine g_for ?_
  refine g_iList ?_
  show tFld K (tVar 0) "newest" _ H _
  refine g_bfld cb rfl B.obj (by decide) rfl ?_
  refine ⟨nd, rfl, .inl ⟨kvs, .inl B.dic⟩, ?_⟩
  walk_at "ss"
  rename_i z hz
  have sm : Same H (upd H z (.lst [])) := same_new hz
  have hcur : ∃ l xs, ((valV kvs (.inr w.word)).getD (.ref z)) = .ref l ∧ (upd H z (.lst [])) l = some (.lst xs) ∧ RulesAt K (upd H z (.lst [])) xs (newestOf rs w) := by
    rw [B.key]
    cases hn : nw w with
    | some l =>
      obtain ⟨xs, h1, h2⟩ := B.here _ _ hn
      exact ⟨l, xs, rfl, sm _ _ h1, h2.ik (Same.ik sm)⟩
    | none => exact ⟨z, [], rfl, upd_same, by rw [B.none' _ hn]; exact .nil⟩
  obtain ⟨l, xs, e1, hl, hx⟩ := hcur
  refine ⟨_, DGet.k (k := .inr w.word) (sm _ _ B.dic), ?_⟩
  rw [e1]
  refine ⟨l, rfl, ⟨xs, SqL.of hl⟩, ?_⟩
  refine for_list (K := K) (a := l) (xs := xs) (fun i σ H' => ∃ v3, σ = [some (.ref a), some (.str w.word), some (.int day), v3] ∧ H' = upd H z (.lst []) ∧ ∀ r ∈ (newestOf rs w).take i, (decide (r.f ≤ day) && decide (day ≤ r.l)) = false)
    ⟨_, rfl, rfl, by simp⟩ (fun i σ H' _ h => by obtain ⟨_, _, h, _⟩ := h; rw [h]; exact SqL.of hl) ?_ ?_
  · rintro i x σ H' hi ⟨v3, rfl, rfl, hno⟩
    obtain ⟨r, hr, hv⟩ := Paired.getL hx hi
    obtain ⟨wv, hin, hwv⟩ := hv.ins
    walk_at "ss"
    refine ite_b (fun h1 => ?_) fun h1 => ?_
    · walk_at "ss"
      refine q _ _ sm ?_
      unfold tellsD
      rw [find_at hno hr h1]
      exact hwv
    · walk_at "ss"
      refine ⟨_, rfl, rfl, fun x hx2 => ?_⟩
      rw [List.take_add_one, hr] at hx2
      rcases List.mem_append.mp hx2 with hx2 | hx2
      · exact hno x hx2
      · simp at hx2
        rw [hx2]
        exact h1
  · rintro σ H' ⟨v3, rfl, rfl, hno⟩
    walk_at "ss"
    refine q _ _ sm ?_
    unfold tellsD
    rw [List.take_of_length_le (Nat.le_of_eq (Paired.length hx).symm)] at hno
    rw [List.find?_eq_none.mpr fun x hx2 => by rw [hno x hx2]; simp]
    exact usual_td _ w
def t_Book_init (K : PySem.W.Frag) : TS :=
  (tSeq (tAsg (tLst tNil) (gName 2))
  (tSeq (tIfS (tTest (tOp rNotN (tVar 1) (tC .non)))
  (tAsg (tCB (rListOf K) (tCons (tVar 1) tNil)) (gName 2))
  tNext)
  (tSeq (sFld K (tVar 0) (tLst tNil) "kept")
  (tSeq (sFld K (tVar 0) tDNewK "newest")
  (tSeq (tFor (iEnum K (tCons (tVar 2) tNil)) (gTup K 2 (gCons (gName 3) (gCons (gName 4) gNil)))
  (tSeq (tAsg (tCall (sp_rule_of K) [] E0 (tCons (tVar 4) tNil)) (gName 5))
  (tSeq (tIfS (tTest (tOp rIsN (tVar 5) (tC .non)))
  tNever
  tNext)
  (tSeq (tDrop (tBM K "list" rAppend (tFld K (tVar 0) "kept") (tCons (tVar 5) tNil)))
  (tDrop (tBM K "list" rInsert (tDSetd (tFld K (tVar 0) "newest") (tRule K "word" (sp_word K) (tVar 5) tNil) (tLst tNil)) (tCons (tC (.int 0)) (tCons (tVar 5) tNil))))))))
  (tIfS (tTest (tOp rGt (tCB (rLen K) (tCons (tVar 2) tNil)) (tC (.int 24))))
  tNever
  tNext))))))
theorem pure_Book_init {K : PySem.W.Frag} {v y : V} {H : Hp} {Q : VK} {E : XK} (h : sp_Book_init K [v, y] H Q E) : t_Book_init K { nx := fun _ H' => Q .non H', rt := Q } [some v, some y, none, none, none, none] H := by
  obtain ⟨v, y, e, c, cb, a, dx, xs, rs, rfl, ho, hy, hxs, hl, hg, q⟩ := h
  cases e
  unfold t_Book_init
  walk_at "ss"
  rename_i th0 hth0
  have hlen := Paired.length hxs
  with_reducible refine jn (P := fun σ H' => ∃ th, σ = [some (.ref a), some y, some (.ref th), none, none, none] ∧ Same H H' ∧ H' th = some (.lst xs)) ?_ fun N hN => ?_
  · clear hth0
    rintro σ H1 ⟨th, rfl, s1, h1⟩
    with_reducible refine g_seq ?_
    with_reducible refine g_sFld ?_
    walk_at "ss"
    rename_i lk hlk
    refine g_bset cb (at_new hlk (s1 _ _ ho)) (by decide) (by decide) ?_
    with_reducible refine g_seq ?_
    with_reducible refine g_sFld ?_
    show ∀ nd, _ = none → _
    intro nd hnd
    walk_at "ss"
    have hla : a ≠ lk := ne_of_none (s1 _ _ ho) hlk
    have hda : a ≠ nd := ne_of_none upd_same hnd
    have hdl : lk ≠ nd := ne_of_none (o := .lst []) (at_ne hla.symm upd_same) hnd
    have htl : th ≠ lk := ne_of_none h1 hlk
    have hta : th ≠ a := fun z => by rw [z, s1 _ _ ho] at h1; cases h1
    have htd : th ≠ nd := ne_of_none (o := .lst xs) (at_ne hta (at_ne htl h1)) hnd
    have fl : Fr H lk := Same.free s1 hlk
    have fd : Fr H nd := Same.free s1 (by
      have z := hnd
      rw [upd_ne hda.symm, upd_ne hdl.symm] at z
      exact z)
    refine g_bset cb (at_ne hda upd_same) (by decide) (show (1 : Nat) < 1000 by decide) ?_
    obtain ⟨G, hG⟩ : ∃ G, G = upd (upd (upd (upd H1 lk (.lst [])) a (.ins (He.ga K "Book") dx (putF "kept" (.ref lk) []))) nd (.dK [])) a (.ins (He.ga K "Book") dx (putF "newest" (.ref nd) (putF "kept" (.ref lk) []))) := ⟨_, rfl⟩
    rw [← hG]
    have hGa : G a = some (.ins (He.ga K "Book") dx [("kept", .ref lk), ("newest", .ref nd)]) := by rw [hG]; exact upd_same
    have hGl : G lk = some (.lst []) := by rw [hG]; exact at_ne hla.symm (at_ne hdl (at_ne hla.symm upd_same))
    have hGd : G nd = some (.dK []) := by rw [hG]; exact at_ne hda.symm upd_same
    have hGt : G th = some (.lst xs) := by rw [hG]; exact at_ne hta (at_ne htd (at_ne hta (at_ne htl h1)))
    have kG : Kp [a] H G := fun p o e n => by
      have np : p ≠ a := fun z => n (by rw [z]; simp)
      rw [hG]
      exact at_ne np (at_ne (ne_of_none e fd) (at_ne np (at_ne (ne_of_none e fl) (s1 _ _ e))))
    have BG : BookIn K G a dx lk nd [] (fun _ => none) [] := ⟨hGa, ⟨[], hGl, .nil⟩, hGd, Nat.le_refl _, (fun _ => rfl), (fun _ _ e => by cases e), (fun _ _ => rfl), (fun _ _ _ e => by cases e), (fun _ _ e => by cases e)⟩
    clear hG hnd hlk h1 s1 hGa hGl hGd
    with_reducible refine g_seqF ?_
    refine g_for ?_
    refine g_iEnum ?_
    walk_at "ss"
    refine ⟨th, xs, rfl, SqL.of hGt, ?_⟩
    refine for_it (walk_enum (K := K) (a := th) (xs := xs)) (fun i σ H' => ∃ v3 v4 v5 kvs nw, σ = [some (.ref a), some y, some (.ref th), v3, v4, v5] ∧ Kp [a] H H' ∧ H' th = some (.lst xs) ∧ BookIn K H' a dx lk nd kvs nw (rs.take i) ∧ ∀ w l, nw w = some l → Fr H l ∧ l ≠ th)
      ⟨_, _, _, [], _, rfl, kG, hGt, BG, (fun _ _ e => by cases e)⟩ (fun i σ H' _ h => by obtain ⟨_, _, _, _, _, _, _, h, _⟩ := h; exact SqL.of h) ?_ ?_
    · clear BG kG hGt G H1 th0 q
      rintro i x σ H' H2 hi ⟨v3, v4, v5, kvs, nw, rfl, k', ht, B, hnw⟩ ⟨T, x1, x2, rfl, hT, rfl, h1, h2⟩
      replace hT : Fr H' T := hT
      replace h2 : xs[i]? = some x2 := h2
      obtain rfl : x1 = .int (i : Nat) := (Option.some.inj h1).symm
      obtain ⟨r, hr, hx⟩ := Paired.getL hxs h2
      have hgr := hg r (List.mem_of_getElem? hr)
      have tkA : Tk H H' := fun p ys e => k' _ _ e fun m => by rw [List.mem_singleton.mp m, ho] at e; cases e
      have hx2 : RuT (upd H' T (.tup [.int (i : Nat), x2])) x2 r := (hx.tk tkA).tk (tk_new hT)
      walk_at "ss"
      refine g_rule_ofG c hx2 hgr fun v H3 s3 hv => ?_
      walk_at "ss"
      obtain ⟨pv, dv, wv, rfl, hvo, hvd⟩ := id hv
      have s' : Same H' H3 := (same_new hT).trans s3
      obtain ⟨ks, hk, hks⟩ := B.kept
      have hk3 := s' _ _ hk
      have hkl : ks.length ≤ 24 := by
        rw [Paired.length hks, List.length_take]
        omega
      have hsm := B.small
      rw [List.length_take] at hsm
      have etk : rs.take (i + 1) = rs.take i ++ [r] := by rw [List.take_add_one, hr]; rfl
      have hla3 : a ≠ lk := hla
      have hin : InsAt K H3 (.ref pv) r.w (.int r.f) (.int r.l) wv := ⟨pv, dv, rfl, hvo⟩
      with_reducible refine g_seq ?_
      walk_at "ss"
      refine ite_df (by simp) ?_
      with_reducible refine g_next ?_
      with_reducible refine g_seqD ?_
      with_reducible refine g_drop ?_
      with_reducible refine g_bm ?_
      refine g_bfld cb rfl (s' _ _ B.obj) (by decide) rfl ?_
      walk_at "ss"
      have hin4 : InsAt K (upd H3 lk (.lst (ks ++ [.ref pv]))) (.ref pv) r.w (.int r.f) (.int r.l) wv := ins_put hk3 hin
      have dic4 : (upd H3 lk (.lst (ks ++ [.ref pv]))) nd = some (.dK kvs) := at_ne hdl.symm (s' _ _ B.dic)
      refine g_dSetd ?_
      refine g_bfld cb rfl (at_ne hla (s' _ _ B.obj)) (by decide) rfl ?_
      refine ⟨nd, rfl, .inl ⟨kvs, .inl dic4⟩, ?_⟩
      walk_at "ss"
      rename_i z hz
      have hzk : Fr H3 z := fr_new hz
      have hz' : Fr H' z := Same.free s' hzk
      have fz : Fr H z := by
        refine fr_kp hz' k' fun m => ?_
        rw [List.mem_singleton.mp m] at hz'
        have := B.obj
        rw [show H' a = none from hz'] at this
        cases this
      have zlk : z ≠ lk := (ne_of_none hk3 hzk).symm
      have zth : z ≠ th := (ne_of_none ht hz').symm
      have znd : z ≠ nd := (ne_of_none (s' _ _ B.dic) hzk).symm
      have za : z ≠ a := (ne_of_none (s' _ _ B.obj) hzk).symm
      have ik4 : Ik H' (upd (upd H3 lk (.lst (ks ++ [.ref pv]))) z (.lst [])) := (Same.ik s').trans (((nk_put hk3).trans (nk_new hz)).ik)
      have hv4 : RuleAt K (upd (upd H3 lk (.lst (ks ++ [.ref pv]))) z (.lst [])) (.ref pv) r := hv.ik (((nk_put hk3).trans (nk_new hz)).ik)
      refine ⟨kvs, .inr r.w.word, at_new hz dic4, rfl, by rw [sizeLine_eq]; omega, fun v' hv' => ?_, fun hn => ?_⟩
      · rw [B.key] at hv'
        cases hn : nw r.w with
        | none => rw [hn] at hv'; cases hv'
        | some l =>
          rw [hn] at hv'
          obtain rfl : V.ref l = v' := Option.some.inj hv'
          obtain ⟨ys, hly, hys⟩ := B.here _ _ hn
          have llk := B.ne _ _ hn
          have lz : l ≠ z := ne_of_none hly hz'
          have hl5 : (upd (upd H3 lk (.lst (ks ++ [.ref pv]))) z (.lst [])) l = some (.lst ys) := at_ne lz (at_ne llk (s' _ _ hly))
          refine g_tyL (SqL.of hl5) ?_
          walk_at "ss"
          refine g_insert0 hl5 (by
            rw [Paired.length hys, sizeLine_eq]
            unfold newestOf
            rw [List.length_reverse]
            have h1 := List.length_filter_le (fun r' : RuleD => decide (r'.w = r.w)) (rs.take i)
            rw [List.length_take] at h1
            omega) ?_
          have ik5 := ik4.trans (nk_put (o := .lst (.ref pv :: ys)) hl5).ik
          refine ⟨_, _, _, kvs, (fun w => if w = r.w then some l else nw w), rfl, ?_, ?_, ?_, fun w p hp => ?_⟩
          · exact fun p o e n => at_ne (ne_of_none e (hnw _ _ hn).1) (at_ne (ne_of_none e fz) (at_ne (ne_of_none e fl) (s' _ _ (k' _ _ e n))))
          · exact at_ne (Ne.symm (hnw _ _ hn).2) (at_ne zth.symm (at_ne htl (s' _ _ ht)))
          · rw [etk]
            refine B.step (hv4.ik (nk_put hl5).ik) ik5 hk (at_ne llk.symm (at_ne zlk.symm upd_same)) (at_ne ?_ (at_new hz dic4)) (by rw [List.length_take]; omega) (fun w => ?_) upd_same (.inl ⟨hn, hly⟩) fun w p hw hp ys' hy' => ?_
            · intro e
              rw [← e] at hly
              rw [B.dic] at hly
              cases hly
            · by_cases e : w = r.w
              · rw [if_pos e, e, B.key, hn]; rfl
              · rw [if_neg e]
            · have pl : p ≠ l := fun e => hw (B.inj _ _ _ hp (by rw [e]; exact hn))
              exact at_ne pl (at_ne (ne_of_none hy' hz') (at_ne (B.ne _ _ hp) (s' _ _ hy')))
          · replace hp : (if w = r.w then some l else nw w) = some p := hp
            by_cases e : w = r.w
            · rw [if_pos e] at hp
              cases hp
              exact hnw _ _ hn
            · rw [if_neg e] at hp
              exact hnw _ _ hp
      · have hnn : nw r.w = none := by
          rw [B.key] at hn
          cases e : nw r.w with
          | none => rfl
          | some l => rw [e] at hn; cases hn
        have hz5 : (upd (upd (upd H3 lk (.lst (ks ++ [.ref pv]))) z (.lst [])) nd (.dK (putK kvs (.inr r.w.word) (.ref z)))) z = some (.lst []) := at_ne znd upd_same
        refine g_tyL (SqL.of hz5) ?_
        walk_at "ss"
        try refine g_insert0 hz5 (by rw [sizeLine_eq]; decide) ?_
        have ikd := ik_dic (o := .dK (putK kvs (.inr r.w.word) (.ref z))) (at_new (u := .lst []) hz dic4)
        have ik5 := (ik4.trans ikd).trans (nk_put (o := .lst [.ref pv]) hz5).ik
        refine ⟨_, _, _, putK kvs (.inr r.w.word) (.ref z), (fun w => if w = r.w then some z else nw w), rfl, ?_, ?_, ?_, fun w p hp => ?_⟩
        · exact fun p o e n => at_ne (ne_of_none e fz) (at_ne (ne_of_none e fd) (at_ne (ne_of_none e fz) (at_ne (ne_of_none e fl) (s' _ _ (k' _ _ e n)))))
        · exact at_ne zth.symm (at_ne htd (at_ne zth.symm (at_ne htl (s' _ _ ht))))
        · rw [etk]
          refine B.step ((hv4.ik ikd).ik (nk_put hz5).ik) ik5 hk (at_ne zlk.symm (at_ne hdl (at_ne zlk.symm upd_same))) (at_ne znd.symm upd_same) (by
            have := length_putK kvs (.inr r.w.word) (.ref z)
            rw [List.length_take]
            omega) (fun w => ?_) upd_same (.inr ⟨hnn, rfl, zlk, fun w e => ?_⟩) fun w p hw hp ys' hy' => ?_
          · rw [valV_put]
            by_cases e : w = r.w
            · rw [if_pos e, if_pos (by rw [e])]
            · rw [if_neg e, if_neg fun h => e (Wd.word_inj (Sum.inr.inj h))]
          · obtain ⟨ys, h3, -⟩ := B.here _ _ e
            rw [show H' z = none from hz'] at h3
            cases h3
          · have pnd : p ≠ nd := fun e => by
              rw [e, B.dic] at hy'
              cases hy'
            exact at_ne (ne_of_none hy' hz') (at_ne pnd (at_ne (ne_of_none hy' hz') (at_ne (B.ne _ _ hp) (s' _ _ hy'))))
        · replace hp : (if w = r.w then some z else nw w) = some p := hp
          by_cases e : w = r.w
          · rw [if_pos e] at hp
            cases hp
            exact ⟨fz, zth⟩
          · rw [if_neg e] at hp
            exact hnw _ _ hp
    · rintro σ H' ⟨v3, v4, v5, kvs, nw, rfl, k', ht, B, hnw⟩
      walk_at "ss"
      refine ite_df (by rw [hlen]; omega) ?_
      walk_at "ss"
      rw [List.take_of_length_le (by omega)] at B
      refine q H' _ k' ⟨a, dx, lk, nd, kvs, nw, rfl, rfl, B⟩ fun p hp => ?_
      rcases List.mem_cons.mp hp with rfl | hp
      · exact fl
      · obtain ⟨w, -, hw⟩ := List.mem_filterMap.mp hp
        exact (hnw w p hw).1
  · walk_at "ss"
    rcases hy with ⟨rfl, rfl⟩ | ⟨p, rfl, hp⟩
    · refine ite_ndt rfl ?_
      walk_at "ss"
      exact hN _ _ ⟨_, rfl, by walk_at "sm", upd_same⟩
    · refine ite_ndf (by simp) ?_
      walk_at "ss"
      exact hN _ _ ⟨_, rfl, by walk_at "sm", upd_same⟩
/-! YU: lists of drawn rules. -/
open PySem PySem.Spec PyProof.Rows L2
theorem isCoins_b {d : PyData} (h : isCoins d = true) : ∃ i, d = .int i ∧ 0 ≤ i ∧ i ≤ 1000000000000 := by
  cases d with
  | int i =>
    have h' : (decide (0 ≤ i) && decide (i ≤ 1000000000000)) = true := h
    simp at h'
    exact ⟨i, rfl, h'⟩
  | _ => cases h
theorem isNights_b {d : PyData} (h : isNights d = true) : ∃ i, d = .int i ∧ 1 ≤ i ∧ i ≤ 14 := by
  cases d with
  | int i =>
    have h' : (decide (1 ≤ i) && decide (i ≤ 14)) = true := h
    simp at h'
    exact ⟨i, rfl, h'⟩
  | _ => cases h
theorem isDeal_ex {d : PyData} (h : isDeal d = true) : d = .none ∨ ∃ m f, d = .tuple [.int m, .int f] ∧ 1 ≤ m ∧ m ≤ 14 ∧ 1 ≤ f ∧ f < m := by
  cases d with
  | none => exact .inl rfl
  | tuple ds =>
    refine .inr ?_
    by_cases hl : ds.length = 2
    · match ds, hl with
      | [p, q], _ =>
        have hp : isNights p = true := by
          cases e : isNights p with
          | true => rfl
          | false => rw [isDeal_n e] at h; cases h
        have hq : isW q = true := by
          cases e : isW q with
          | true => rfl
          | false => rw [isDeal_w e] at h; cases h
        obtain ⟨m, rfl, m0, m1⟩ := isNights_b hp
        obtain ⟨f, rfl⟩ := isW_int hq
        have h' : (isNights (.int m) && (decide (1 ≤ f) && decide (f < m))) = true := h
        rw [hp] at h'
        simp at h'
        exact ⟨m, f, rfl, m0, m1, h'⟩
    · rw [isDeal_no hl] at h; cases h
  | _ => cases h
def Rus (H : Hp) (xs : List V) (rs : List RuleD) : Prop := Paired (RuT H) xs rs
theorem Rus.tk {H H' : Hp} {xs : List V} {rs : List RuleD} (k : Tk H H') (h : Rus H xs rs) : Rus H' xs rs := Paired.mapP h fun _ _ q => q.tk k
theorem ru_nil {H : Hp} : Rus H [] [] := .nil
theorem ru_new {H : Hp} {p : Addr} {o : HO} {xs : List V} {rs : List RuleD} (hp : Fr H p) (h : Rus H xs rs) : Rus (upd H p o) xs rs := h.tk (tk_new hp)
theorem ru_put {H : Hp} {p : Addr} {o : HO} {zs : List V} {xs : List V} {rs : List RuleD} (hp : H p = some (.lst zs)) (h : Rus H xs rs) : Rus (upd H p o) xs rs := h.tk (tk_put hp)
theorem ru_same {H H' : Hp} {xs : List V} {rs : List RuleD} (k : Same H H') (h : Rus H xs rs) : Rus H' xs rs := h.tk (Same.tk k)
theorem ru_kp {H H' : Hp} {t b s : Addr} {xs : List V} {rs : List RuleD} (k : Kp [t, b] H H') (T : Tape H t b s) (h : Rus H xs rs) : Rus H' xs rs := h.tk (tk_kp T k)
theorem ru_app {H : Hp} {xs ys : List V} {rs ss : List RuleD} (h : Rus H xs rs) (g : Rus H ys ss) : Rus H (xs ++ ys) (rs ++ ss) := Paired.app h g
theorem ru_take {H : Hp} {n : Nat} {xs : List V} {rs : List RuleD} (h : Rus H xs rs) : Rus H (xs.take n) (rs.take n) := Paired.take n h
theorem ru_drop {H : Hp} {n : Nat} {xs : List V} {rs : List RuleD} (h : Rus H xs rs) : Rus H (xs.drop n) (rs.drop n) := Paired.drop n h
theorem ru_one {H : Hp} {p : Addr} {w : Wd} {f l : Int} {wv : V} {d : PyData} (h : H p = some (.tup [.str w.word, .int f, .int l, wv])) (g : Td H wv d) : RuT H (.ref p) ⟨w, f, l, d⟩ := ⟨p, wv, rfl, h, g⟩
theorem ru_len {H : Hp} {xs : List V} {rs : List RuleD} (h : Rus H xs rs) : xs.length = rs.length := Paired.length h
theorem dp_rules {K : PySem.W.Frag} {H : Hp} : ∀ {xs : List V} {rs : List RuleD}, Rus H xs rs → DpAll K H xs (rs.map RuleD.told)
  | _, _, .nil => .nil
  | _, _, .cons r t => .cons r.td.dp (dp_rules t)
theorem dp_row {K : PySem.W.Frag} {H : Hp} {p : Addr} {xs : List V} {rs : List RuleD} (h : SqL K H p xs) (r : Rus H xs rs) : Dp K H (.ref p) (.list (rs.map RuleD.told)) := .lst h (dp_rules r)
theorem gd_app {rs ss : List RuleD} (h : ∀ r ∈ rs, RuleD.good r) (g : ∀ r ∈ ss, RuleD.good r) : ∀ r ∈ rs ++ ss, RuleD.good r := fun r hr => (List.mem_append.mp hr).elim (h r) (g r)
theorem gd_take {rs : List RuleD} {n : Nat} (h : ∀ r ∈ rs, RuleD.good r) : ∀ r ∈ rs.take n, RuleD.good r := fun r hr => h r (List.mem_of_mem_take hr)
theorem gd_drop {rs : List RuleD} {n : Nat} (h : ∀ r ∈ rs, RuleD.good r) : ∀ r ∈ rs.drop n, RuleD.good r := fun r hr => h r (List.mem_of_mem_drop hr)
theorem tape_free {H : Hp} {t b s : Addr} {F : List Addr} (T : Tape H t b s) (f : ∀ p ∈ F, Fr H p) : ∀ p ∈ F, p ∉ [t, b] := fun p hp => ni_tape (f p hp) T
theorem g_mkBookL {K : PySem.W.Frag} {E : XK} {H : Hp} {Q : VK} {vs dvs : List V} {p t b s : Addr} {xs : List V} {rs : List RuleD} (c : CFR K) (cb : CFB K) (e : vs ++ dvs = [.ref p]) (h : SqL K H p xs) (hp : Rus H xs rs) (hl : rs.length ≤ 24) (hg : ∀ r ∈ rs, RuleD.good r) (T : Tape H t b s)
    (q : ∀ v F H', Same H H' → BookAt K H' F v rs → (∀ p ∈ F, Fr H p) → (∀ p ∈ F, p ∉ [t, b]) → Q v H') : rMake (He.ga K "Book") (sp_Book_init K) dvs E vs H Q :=
  g_mkBook c cb e (.inr ⟨p, rfl, h⟩) hp hl hg fun v F H' s b f => q v F H' s b f (tape_free T f)
theorem g_brulesR {K : PySem.W.Frag} {F : List Addr} {rs : List RuleD} {v : V} {H : Hp} {Q : VK} {E : XK} (c : CFR K) (cb : CFB K) (b : BookAt K H F v rs) (l : rs.length ≤ 1000) (q : ∀ p H' ys, Same H H' → Fr H p → H' p = some (.lst ys) → Rus H' ys rs → Q (.ref p) H') : sp_Book_rules K (v :: ([] ++ [])) H Q E := g_brules c cb b l q
/-- a method of what an expression makes -/
def rObj (C : Addr) (m : Str) (x : V) (H1 : Hp) (R : Hp → Prop) : Prop := ∃ a dx fs, x = .ref a ∧ H1 a = some (.ins C dx fs) ∧ fs.lookup m = none ∧ R H1
theorem g_slTo {K : PySem.W.Frag} {H : Hp} {Q : VK} {p : Addr} {xs : List V} {n : Int} (hn : 0 ≤ n) (h : SqL K H p xs) (q : ∀ a, Fr H a → Q (.ref a) (upd H a (.lst (xs.take n.toNat)))) : rSlL K (.ref p) none (some n) H Q := g_slL h fun a ha => by
  rw [cut_to hn]; exact q a ha
theorem g_slFrom {K : PySem.W.Frag} {H : Hp} {Q : VK} {p : Addr} {xs : List V} {n : Int} (hn : 0 ≤ n) (h : SqL K H p xs) (q : ∀ a, Fr H a → Q (.ref a) (upd H a (.lst (xs.drop n.toNat)))) : rSlL K (.ref p) (some n) none H Q := g_slL h fun a ha => by
  rw [cut_from hn]; exact q a ha
/-! YV: the worth that is due. -/
open PySem PySem.Spec PyProof.Rows L2
def dueD (rs : List RuleD) (w : Wd) (day : Int) : PyData := rs.foldl (fun d r => if r.w = w ∧ r.f ≤ day ∧ day ≤ r.l then r.d else d) (usualD w)
theorem due_snoc (rs : List RuleD) (r : RuleD) (w : Wd) (day : Int) : dueD (rs ++ [r]) w day = if r.w = w ∧ r.f ≤ day ∧ day ≤ r.l then r.d else dueD rs w day := by
  unfold dueD
  rw [List.foldl_append]
  rfl
theorem tells_snoc (rs : List RuleD) (r : RuleD) (w : Wd) (day : Int) : tellsD (rs ++ [r]) w day = if r.w = w ∧ r.f ≤ day ∧ day ≤ r.l then r.d else tellsD rs w day := by
  unfold tellsD
  rw [newest_snoc]
  by_cases h : r.w = w
  · rw [if_pos h, List.find?_cons]
    by_cases h1 : r.f ≤ day ∧ day ≤ r.l
    · rw [if_pos ⟨h, h1⟩, decide_eq_true h1.1, decide_eq_true h1.2]
      rfl
    · rw [if_neg (fun z => h1 z.2)]
      have : (decide (r.f ≤ day) && decide (day ≤ r.l)) = false := by
        rw [← Bool.decide_and]
        exact decide_eq_false h1
      rw [this]
  · rw [if_neg h, if_neg fun z => h z.1]
theorem due_tells (rs : List RuleD) (w : Wd) (day : Int) : dueD rs w day = tellsD rs w day := by
  have : ∀ l : List RuleD, dueD l.reverse w day = tellsD l.reverse w day := by
    intro l
    induction l with
    | nil => rfl
    | cons r l ih => rw [List.reverse_cons, due_snoc, tells_snoc, ih]
  have h := this rs.reverse
  rwa [List.reverse_reverse] at h
theorem tells_mem (rs : List RuleD) (w : Wd) (day : Int) : tellsD rs w day = usualD w ∨ ∃ r ∈ rs, r.w = w ∧ r.f ≤ day ∧ day ≤ r.l ∧ tellsD rs w day = r.d := by
  have : ∀ l : List RuleD, tellsD l.reverse w day = usualD w ∨ ∃ r ∈ l.reverse, r.w = w ∧ r.f ≤ day ∧ day ≤ r.l ∧ tellsD l.reverse w day = r.d := by
    intro l
    induction l with
    | nil => exact .inl rfl
    | cons r l ih =>
      rw [List.reverse_cons, tells_snoc]
      by_cases h : r.w = w ∧ r.f ≤ day ∧ day ≤ r.l
      · rw [if_pos h]
        exact .inr ⟨r, by simp, h.1, h.2.1, h.2.2, rfl⟩
      · rw [if_neg h]
        rcases ih with e | ⟨r', h1, h2⟩
        · exact .inl e
        · exact .inr ⟨r', List.mem_append_left _ h1, h2⟩
  have h := this rs.reverse
  rwa [List.reverse_reverse] at h
/-! YFd: the first day on which two books tell otherwise: it is a bound. -/
open PySem PySem.Spec PyProof.Rows L2
theorem due_same {rs : List RuleD} {w : Wd} {d d' : Int} (h : ∀ r ∈ rs, r.w = w → ((r.f ≤ d ∧ d ≤ r.l) ↔ (r.f ≤ d' ∧ d' ≤ r.l))) : dueD rs w d = dueD rs w d' := by
  unfold dueD
  generalize usualD w = u
  induction rs generalizing u with
  | nil => rfl
  | cons r rs ih =>
    rw [List.foldl_cons, List.foldl_cons]
    have e : (if r.w = w ∧ r.f ≤ d ∧ d ≤ r.l then r.d else u) = if r.w = w ∧ r.f ≤ d' ∧ d' ≤ r.l then r.d else u := by
      by_cases z : r.w = w
      · have := h r List.mem_cons_self z
        simp only [z, true_and]
        by_cases y : r.f ≤ d ∧ d ≤ r.l
        · rw [if_pos y, if_pos (this.mp y)]
        · rw [if_neg y, if_neg fun q => y (this.mpr q)]
      · rw [if_neg fun q => z q.1, if_neg fun q => z q.1]
    rw [e]
    exact ih (fun r' hr' => h r' (List.mem_cons_of_mem _ hr')) _
/-- where what is told changes from one day to the next a rule begins, or ended -/
theorem tells_turn {rs : List RuleD} {w : Wd} {d : Int} (h : tellsD rs w (d - 1) ≠ tellsD rs w d) : ∃ r ∈ rs, r.w = w ∧ (r.f = d ∨ r.l + 1 = d) := by
  by_cases z : ∃ r ∈ rs, r.w = w ∧ (r.f = d ∨ r.l + 1 = d)
  · exact z
  · refine absurd ?_ h
    rw [← due_tells, ← due_tells]
    refine due_same fun r hr hw => ?_
    have n1 : r.f ≠ d := fun e => z ⟨r, hr, hw, .inl e⟩
    have n2 : r.l + 1 ≠ d := fun e => z ⟨r, hr, hw, .inr e⟩
    omega
/-- the least day, of all, of which P is so -/
def leastO (n : Nat) (P : Int → Bool) : Option Int := ((List.range n).map fun (i : Nat) => (i : Int)).find? P
theorem least_some {n : Nat} {P : Int → Bool} {d : Int} (h : leastO n P = some d) : P d = true ∧ 0 ≤ d ∧ d < n ∧ ∀ d', 0 ≤ d' → d' < d → P d' = false := by
  unfold leastO at h
  obtain ⟨h1, i, hi, e, h2⟩ := List.find?_eq_some_iff_getElem.mp h
  rw [List.length_map, List.length_range] at hi
  simp only [List.getElem_map, List.getElem_range] at e h2
  refine ⟨h1, by omega, by omega, fun d' a b => ?_⟩
  have := h2 d'.toNat (by omega)
  rw [Int.toNat_of_nonneg a] at this
  simpa using this
theorem least_none {n : Nat} {P : Int → Bool} (h : leastO n P = none) {d : Int} (a : 0 ≤ d) (b : d < n) : P d = false := by
  unfold leastO at h
  have := List.find?_eq_none.mp h d (List.mem_map.mpr ⟨d.toNat, List.mem_range.mpr (by omega), by omega⟩)
  simpa using this
theorem sorted_find {P : Int → Bool} : ∀ {ds : List Int} {d : Int}, ds.Pairwise (· ≤ ·) → d ∈ ds → P d = true → (∀ d' ∈ ds, d' < d → P d' = false) → ds.find? P = some d
  | [], d, _, h, _, _ => by cases h
  | x :: ds, d, p, h, a, b => by
    rw [List.find?_cons]
    rcases List.mem_cons.mp h with rfl | h
    · rw [a]
    · have le := (List.pairwise_cons.mp p).1 d h
      by_cases e : x = d
      · rw [e, a]
      · rw [b x List.mem_cons_self (by omega)]
        exact sorted_find (List.pairwise_cons.mp p).2 h a fun d' hd' => b d' (List.mem_cons_of_mem _ hd')
/-- days that rise, 0 among them, and each day on which P turns to be so -/
theorem find_least {n : Nat} {P : Int → Bool} {ds : List Int} (up : ds.Pairwise (· ≤ ·)) (h0 : 0 ∈ ds) (hb : ∀ d ∈ ds, 0 ≤ d ∧ d < (n : Int)) (ht : ∀ d : Int, 0 < d → d < (n : Int) → P (d - 1) = false → P d = true → d ∈ ds) : ds.find? P = leastO n P := by
  cases e : leastO n P with
  | none => exact List.find?_eq_none.mpr fun d hd => by rw [least_none e (hb d hd).1 (hb d hd).2]; decide
  | some d =>
    obtain ⟨h1, h2, h3, h4⟩ := least_some e
    refine sorted_find up ?_ h1 fun d' hd' hlt => h4 d' (hb d' hd').1 hlt
    by_cases z : d = 0
    · rw [z]; exact h0
    · exact ht d (by omega) h3 (h4 _ (by omega) (by omega)) h1
/-- whether two books tell otherwise of a word and a day -/
def difB (rs ss : List RuleD) (w : Wd) (d : Int) : Bool := !(PyData.eqv (tellsD rs w d) (tellsD ss w d))
def allW : List Wd := [.price, .come, .go, .least, .most, .deal, .fee]
/-- the first word, and its least day, of which two books tell otherwise -/
def unlO (rs ss : List RuleD) : Option (Wd × Int) := allW.findSome? fun w => (leastO 1000001 (difB rs ss w)).map fun d => (w, d)
/-- a list of days good for two books -/
structure DaysOk (ds : List Int) (rs ss : List RuleD) : Prop where
  up : ds.Pairwise (· ≤ ·)
  zero : (0 : Int) ∈ ds
  rng : ∀ d ∈ ds, 0 ≤ d ∧ d ≤ 1000000
  bnd : ∀ r ∈ rs ++ ss, r.f ∈ ds ∧ (r.l + 1 ≤ 1000000 → r.l + 1 ∈ ds)
theorem find_first {α β : Type} {f : α → Option β} {x : α} {y : β} : ∀ {l : List α} {j : Nat}, l[j]? = some x → (∀ z ∈ l.take j, f z = none) → f x = some y → l.findSome? f = some y
  | [], _, h, _, _ => by cases h
  | a :: l, 0, h, _, e => by
    cases h
    rw [List.findSome?_cons, e]
  | a :: l, j + 1, h, n, e => by
    rw [List.findSome?_cons, n a (by simp)]
    exact find_first (l := l) (j := j) h (fun z hz => n z (by simp [hz])) e
theorem find_getI {P : Int → Bool} {d : Int} : ∀ {l : List Int} {j : Nat}, l[j]? = some d → (∀ z ∈ l.take j, P z = false) → P d = true → l.find? P = some d
  | [], _, h, _, _ => by cases h
  | a :: l, 0, h, _, e => by
    cases h
    rw [List.find?_cons, e]
  | a :: l, j + 1, h, n, e => by
    rw [List.find?_cons, n a (by simp)]
    exact find_getI (l := l) (j := j) h (fun z hz => n z (by simp [hz])) e
theorem paired_int {bl : List V} {L : List Int} (h : Paired (fun v (b : Int) => v = V.int b) bl L) : bl = L.map V.int := by
  induction h with
  | nil => rfl
  | cons a _ ih => rw [a, ih]; rfl
/-! YC: lists of data; what a book tells is of the word's kind. -/
open PySem PySem.Spec PyProof.Rows L2
theorem tds_of {H : Hp} : ∀ {xs : List V} {ds : List PyData}, Paired (fun v d => Td H v d) xs ds → Tds H xs ds
  | _, _, .nil => .nil
  | _, _, .cons a b => .cons a (tds_of b)
/-- a value's truth (the hand layer's own word is an abbreviation) -/
def tTru (K : PySem.W.Frag) (ta : TE) : TT := fun σ H Q => ta σ H fun x H1 => ∃ k, TruV K x H1 k ∧ Q k H1
def rTru (K : PySem.W.Frag) (x : V) (H : Hp) (Q : Bool → Hp → Prop) : Prop := ∃ k, TruV K x H k ∧ Q k H
theorem g_tru {K : PySem.W.Frag} {ta : TE} {σ : L2.St} {H : Hp} {Q : Bool → Hp → Prop} (h : ta σ H fun x H1 => rTru K x H1 Q) : tTru K ta σ H Q := h
theorem g_truB {K : PySem.W.Frag} {b : Bool} {H : Hp} {Q : Bool → Hp → Prop} (q : Q b H) : rTru K (.bl b) H Q := ⟨b, rfl, q⟩
/-- x is True, x is False -/
def rIsB : R2 := fun x y H Q => ∃ b c, x = .bl b ∧ y = .bl c ∧ Q (.bl (decide (b = c))) H
theorem g_tellsZ {K : PySem.W.Frag} {F : List Addr} {rs : List RuleD} {z : Str} {w : Wd} {day : Int} {v : V} {H : Hp} {Q : VK} {E : XK} (c : CFR K) (cb : CFB K) (b : BookAt K H F v rs) (ez : wordOf z = some w) (q : ∀ x H', Same H H' → Td H' x (tellsD rs w day) → Q x H') : sp_Book_tells_of K (v :: ([.str z, .int day] ++ [])) H Q E := by
  rw [wordOf_some ez]
  exact g_tells_of c cb b q
theorem wd_price : wordOf ("price" : Str) = some .price := wordOf_word .price
theorem wd_come : wordOf ("come" : Str) = some .come := wordOf_word .come
theorem wd_go : wordOf ("go" : Str) = some .go := wordOf_word .go
theorem wd_least : wordOf ("least" : Str) = some .least := wordOf_word .least
theorem wd_most : wordOf ("most" : Str) = some .most := wordOf_word .most
theorem wd_deal : wordOf ("deal" : Str) = some .deal := wordOf_word .deal
theorem wd_fee : wordOf ("fee" : Str) = some .fee := wordOf_word .fee
theorem ru_lit {H : Hp} {p : Addr} {z : Str} {w : Wd} {f l : Int} {wv : V} {d : PyData} (h : H p = some (.tup [.str z, .int f, .int l, wv])) (e : wordOf z = some w) (g : Td H wv d) : RuT H (.ref p) ⟨w, f, l, d⟩ := by
  rw [wordOf_some e] at h
  exact ru_one h g
theorem ru_cons {H : Hp} {x : V} {r : RuleD} {xs : List V} {rs : List RuleD} (h : RuT H x r) (t : Rus H xs rs) : Rus H (x :: xs) (r :: rs) := .cons h t
theorem usual_fit (w : Wd) : fitsD w (usualD w) = true := by cases w <;> rfl
theorem tells_fits {rs : List RuleD} (g : ∀ r ∈ rs, RuleD.good r) (w : Wd) (day : Int) : fitsD w (tellsD rs w day) = true := by
  rcases tells_mem rs w day with e | ⟨r, h, hw, -, -, e⟩
  · rw [e]; exact usual_fit w
  · rw [e, ← hw]; exact (g r h).2.2.2
theorem isBool_b {d : PyData} (h : isBool d = true) : ∃ b, d = .bool b := by
  cases d with
  | bool b => exact ⟨b, rfl⟩
  | _ => cases h
/-- what is told of a word is of its kind -/
theorem td_bool {H : Hp} {x : V} {d : PyData} (h : Td H x d) (f : isBool d = true) : ∃ b, x = .bl b ∧ d = .bool b := by
  obtain ⟨b, rfl⟩ := isBool_b f
  cases h
  exact ⟨b, rfl, rfl⟩
theorem td_night {H : Hp} {x : V} {d : PyData} (h : Td H x d) (f : isNights d = true) : ∃ i, x = .int i ∧ d = .int i ∧ 1 ≤ i ∧ i ≤ 14 := by
  obtain ⟨i, rfl, h0, h1⟩ := isNights_b f
  cases h
  exact ⟨i, rfl, rfl, h0, h1⟩
theorem td_coin {H : Hp} {x : V} {d : PyData} (h : Td H x d) (f : isCoins d = true) : ∃ i, x = .int i ∧ d = .int i ∧ 0 ≤ i ∧ i ≤ 1000000000000 := by
  obtain ⟨i, rfl, h0, h1⟩ := isCoins_b f
  cases h
  exact ⟨i, rfl, rfl, h0, h1⟩
theorem td_price {H : Hp} {x : V} {d : PyData} (h : Td H x d) (f : fitsD .price d = true) : (x = .non ∧ d = .none) ∨ ∃ i, x = .int i ∧ d = .int i ∧ 0 ≤ i ∧ i ≤ 1000000000000 := by
  rcases Bool.or_eq_true_iff.mp (show (isNone d || isCoins d) = true from f) with g | g
  · left
    cases d <;> first | (cases h; exact ⟨rfl, rfl⟩) | cases g
  · exact .inr (td_coin h g)
/-- the worths of a book, by word -/
def comeB (rs : List RuleD) (w : Wd) (day : Int) : Bool := match tellsD rs w day with | .bool b => b | _ => true
def numI (rs : List RuleD) (w : Wd) (day : Int) : Int := match tellsD rs w day with | .int i => i | _ => 0
theorem come_b {rs : List RuleD} (g : ∀ r ∈ rs, RuleD.good r) {w : Wd} (hw : w = .come ∨ w = .go) {day : Int} {H : Hp} {x : V} (h : Td H x (tellsD rs w day)) : x = .bl (comeB rs w day) := by
  have f := tells_fits g w day
  obtain ⟨b, rfl, e⟩ := td_bool h (by rcases hw with rfl | rfl <;> exact f)
  unfold comeB
  rw [e]
theorem num_n {rs : List RuleD} (g : ∀ r ∈ rs, RuleD.good r) {w : Wd} (hw : w = .least ∨ w = .most) {day : Int} {H : Hp} {x : V} (h : Td H x (tellsD rs w day)) : x = .int (numI rs w day) ∧ 1 ≤ numI rs w day ∧ numI rs w day ≤ 14 := by
  have f := tells_fits g w day
  obtain ⟨b, rfl, e, h0, h1⟩ := td_night h (by rcases hw with rfl | rfl <;> exact f)
  unfold numI
  rw [e]
  exact ⟨rfl, h0, h1⟩
theorem num_f {rs : List RuleD} (g : ∀ r ∈ rs, RuleD.good r) {day : Int} {H : Hp} {x : V} (h : Td H x (tellsD rs .fee day)) : x = .int (numI rs .fee day) ∧ 0 ≤ numI rs .fee day ∧ numI rs .fee day ≤ 1000000000000 := by
  have f := tells_fits g .fee day
  obtain ⟨b, rfl, e, h0, h1⟩ := td_coin h f
  unfold numI
  rw [e]
  exact ⟨rfl, h0, h1⟩
def soldB (rs : List RuleD) (day : Int) : Bool := !isNone (tellsD rs .price day)
theorem price_v {rs : List RuleD} (g : ∀ r ∈ rs, RuleD.good r) {day : Int} {H : Hp} {x : V} (h : Td H x (tellsD rs .price day)) : (soldB rs day = false ∧ x = .non) ∨ (soldB rs day = true ∧ x = .int (numI rs .price day) ∧ 0 ≤ numI rs .price day ∧ numI rs .price day ≤ 1000000000000) := by
  have f := tells_fits g .price day
  rcases td_price h f with ⟨rfl, e⟩ | ⟨i, rfl, e, h0, h1⟩
  · left
    unfold soldB
    rw [e]
    exact ⟨rfl, rfl⟩
  · right
    unfold soldB numI
    rw [e]
    exact ⟨rfl, rfl, h0, h1⟩
/-! YBk: books that stand somewhere, days from one to another. -/
open PySem PySem.Spec PyProof.Rows L2
theorem days_mem {c g n : Int} (h : n ∈ days c g) : c ≤ n ∧ n < g := by
  unfold days at h
  obtain ⟨i, hi, rfl⟩ := List.mem_map.mp h
  have := List.mem_range.mp hi
  omega
theorem mem_days {c g n : Int} : n ∈ days c g ↔ c ≤ n ∧ n < g := by
  refine ⟨days_mem, fun h => ?_⟩
  unfold days
  exact List.mem_map.mpr ⟨(n - c).toNat, List.mem_range.mpr (by omega), by omega⟩
/-- a book stands at v -/
def BkAt (K : PySem.W.Frag) (H : Hp) (v : V) (rs : List RuleD) : Prop := ∃ F, BookAt K H F v rs
theorem BkAt.same {K : PySem.W.Frag} {H H' : Hp} {v : V} {rs : List RuleD} (s : Same H H') (h : BkAt K H v rs) : BkAt K H' v rs := let ⟨F, b⟩ := h; ⟨F, bk_same s b⟩
def GoodB (bs : List (List RuleD)) : Prop := ∀ rs ∈ bs, ∀ r ∈ rs, RuleD.good r
def StayB (c g : Int) : Prop := 0 ≤ c ∧ c < g ∧ g ≤ c + 14 ∧ g ≤ 1000000
theorem while_m {c : TT} {tb : TS} {D : Ends} {σ : L2.St} {H : Hp} (W : Nat → L2.St → Hp → Prop) {m0 : Nat} (h0 : W m0 σ H)
    (hs : ∀ m σ H, W m σ H → c σ H fun b H1 => if b = true then tb { D with nx := fun σ' H' => ∃ m', m' < m ∧ W m' σ' H', ct := fun σ' H' => ∃ m', m' < m ∧ W m' σ' H', bk := D.nx } σ H1 else D.nx σ H1)
    (mono : ∀ σ H Q Q', (∀ b H1, Q b H1 → Q' b H1) → c σ H Q → c σ H Q') : tWhile c tb D σ H := by
  refine ⟨W, ⟨m0, h0⟩, fun m σ H w => ?_⟩
  refine mono σ H _ _ (fun b H1 q => ?_) (hs m σ H w)
  cases b with
  | true => exact ⟨_, fun _ _ h => h, q⟩
  | false => exact q
/-! YOs: shapes of rules' data. -/
open PySem PySem.Spec PyProof.Rows L2
theorem sh_word (w : Wd) (n : Nat) : Sh n (.str w.word) := sh_str (by cases w <;> decide +kernel) n
theorem sh_fits {w : Wd} {d : PyData} (h : fitsD w d = true) : Sh 1 d := by
  have coins : isCoins d = true → Sh 1 d := fun h => by
    obtain ⟨i, rfl, -⟩ := isCoins_b h
    exact sh_int _ _
  have nights : isNights d = true → Sh 1 d := fun h => by
    obtain ⟨i, rfl, -⟩ := isNights_b h
    exact sh_int _ _
  have bool : isBool d = true → Sh 1 d := fun h => by
    cases d with
    | bool b => exact sh_bl _ _
    | _ => cases h
  have none' : d = .none → Sh 1 d := fun e => by
    subst e
    exact sh_non _
  cases w with
  | price =>
    have h' : (isNone d || isCoins d) = true := h
    rcases Bool.or_eq_true_iff.mp h' with h | h
    · refine none' ?_
      cases d <;> first | rfl | cases h
    · exact coins h
  | come => exact bool h
  | go => exact bool h
  | least => exact nights h
  | most => exact nights h
  | fee => exact coins h
  | deal =>
    rcases isDeal_ex h with e | ⟨m, f, rfl, -⟩
    · exact none' e
    · refine sh_tup fun x hx => ?_
      simp only [List.mem_cons, List.not_mem_nil, or_false] at hx
      rcases hx with rfl | rfl
      · exact sh_int _ _
      · exact sh_int _ _
theorem sh_rule {r : RuleD} (h : r.good) : Sh 2 r.told := sh_tup fun x hx => by
  simp only [List.mem_cons, List.not_mem_nil, or_false] at hx
  rcases hx with rfl | rfl | rfl | rfl
  · exact sh_word _ _
  · exact sh_int _ _
  · exact sh_int _ _
  · exact sh_fits h.2.2.2
/-! YTp: tidied lists of rules. -/
open PySem PySem.Spec PyProof.Rows L2
theorem eqv_i (i j : Int) : PyData.eqv (.int i) (.int j) = decide (i = j) := by
  have := eqv_ints [i] [j]
  simp [PyData.eqvAll] at this
  exact this
/-- two lists of rules tell the same of each word and day -/
def Alike (rs ss : List RuleD) : Prop := ∀ w d, 0 ≤ d → d ≤ 1000000 → tellsD rs w d = tellsD ss w d
theorem Alike.trans {rs ss ts : List RuleD} (h : Alike rs ss) (g : Alike ss ts) : Alike rs ts := fun w d a b => (h w d a b).trans (g w d a b)
/-- one of a list's rules left out -/
def delR {α : Type} (l : List α) (k : Nat) : List α := l.take k ++ l.drop (k + 1)
/-- rules that no day of which is d -/
def NoCov (s : List RuleD) (w : Wd) (d : Int) : Prop := ∀ r ∈ s, ¬ (r.w = w ∧ r.f ≤ d ∧ d ≤ r.l)
/-- tidying: from a place on -/
def tidyF (rs : List RuleD) : Nat → Nat → List RuleD → List RuleD
  | 0, _, l => l
  | n + 1, k, l => if (unlO rs (delR l k)).isNone then tidyF rs n k (delR l k) else tidyF rs n (k + 1) l
def tidyR (rs : List RuleD) : List RuleD := tidyF rs rs.length 0 rs
/-- what is so of the rules kept while the places up to k were looked at -/
structure TidI (rs : List RuleD) (k : Nat) (l : List RuleD) : Prop where
  sub : l.Sublist rs
  alike : Alike rs l
  need : ∀ j, j < k → j < l.length → ¬ Alike rs (delR l j)
/-! YBa: what bars a stay. -/
open PySem PySem.Spec PyProof.Rows L2
def nightsL (rs : List RuleD) (c g : Int) : List (Wd × Int) := (days c g).filterMap fun n => if soldB rs n then none else some (Wd.price, n)
def bars1 (rs : List RuleD) (c g : Int) : List (Wd × Int) := nightsL rs c g ++ if comeB rs .come c then [] else [(.come, c)]
def bars2 (rs : List RuleD) (c g : Int) : List (Wd × Int) := bars1 rs c g ++ if comeB rs .go g then [] else [(.go, g)]
def bars3 (rs : List RuleD) (c g : Int) : List (Wd × Int) := bars2 rs c g ++ if g - c < numI rs .least c then [(.least, c)] else []
def barsL (rs : List RuleD) (c g : Int) : List (Wd × Int) := bars3 rs c g ++ if g - c > numI rs .most c then [(.most, c)] else []
def barD (p : Wd × Int) : PyData := .tuple [.str p.1.word, .int p.2]
def QBar (rs : List RuleD) (c g : Int) (H : Hp) (Q : VK) : Prop := ∀ (p : Addr) (xs : List V) (H' : Hp), Same H H' → Fr H p → H' p = some (.lst xs) → Tds H' xs ((barsL rs c g).map barD) → Q (.ref p) H'
def sp_bars (K : PySem.W.Frag) : Sp := Sp2 fun v y H Q E => CFR K ∧ CFB K ∧ ∃ (F : List Addr) (rs : List RuleD) (a : Addr) (c g : Int), y = .ref a ∧ BookAt K H F v rs ∧ (∀ r ∈ rs, RuleD.good r) ∧ SqT K H a [.int c, .int g] ∧ (c - 1000 ≤ g ∧ g ≤ c + 1000 ∧ -10000000 ≤ c ∧ c ≤ 10000000) ∧ QBar rs c g H Q
/-! YBi: bills of stays whose nights are sold. -/
open PySem PySem.Spec PyProof.Rows L2
theorem fm_map {α β : Type} (f : α → β) (l : List α) : l.filterMap (fun x => some (f x)) = l.map f := by
  induction l with
  | nil => rfl
  | cons a l ih => simp [ih]
def pricesL (rs : List RuleD) (c g : Int) : List Int := (days c g).map fun n => numI rs .price n
def dealO (rs : List RuleD) (c : Int) : Option (Int × Int) := match tellsD rs .deal c with | .tuple [.int m, .int f] => some (m, f) | _ => none
def marksL (rs : List RuleD) (c g : Int) : List Bool := mkO (pricesL rs c g) (dealO rs c)
def rowOf (rs : List RuleD) (c g : Int) (i : Nat) : Int × Int × Bool := ((days c g).getD i 0, (pricesL rs c g).getD i 0, (marksL rs c g).getD i false)
def rowsL (rs : List RuleD) (c g : Int) : List (Int × Int × Bool) := (List.range (days c g).length).map (rowOf rs c g)
def rowD (r : Int × Int × Bool) : PyData := .tuple [.int r.1, .int r.2.1, .bool r.2.2]
def paidL (rs : List RuleD) (c g : Int) : List Int := (rowsL rs c g).filterMap fun r => if r.2.2 then none else some r.2.1
def sumD (rs : List RuleD) (c g : Int) : Int := numI rs .fee c + (paidL rs c g).sum
theorem prices_len (rs : List RuleD) (c g : Int) : (pricesL rs c g).length = (days c g).length := by unfold pricesL; rw [List.length_map]
theorem marks_len (rs : List RuleD) (c g : Int) : (marksL rs c g).length = (days c g).length := by unfold marksL; rw [mkO_len, prices_len]
theorem rows_len (rs : List RuleD) (c g : Int) : (rowsL rs c g).length = (days c g).length := by unfold rowsL; rw [List.length_map, List.length_range]
theorem td_two {H : Hp} {x : V} {m f : Int} (h : Td H x (.tuple [.int m, .int f])) : PrAt H x (m, f) := by
  cases h with
  | tup h r =>
    cases r with
    | cons a r =>
      cases r with
      | cons b r =>
        cases r
        cases a
        cases b
        exact ⟨_, rfl, h⟩
theorem td_row {H : Hp} {x : V} {r : Int × Int × Bool} (h : Td H x (rowD r)) : ∃ q, x = .ref q ∧ H q = some (.tup [.int r.1, .int r.2.1, .bl r.2.2]) := by
  unfold rowD at h
  cases h with
  | tup h r =>
    cases r with
    | cons a r =>
      cases r with
      | cons b r =>
        cases r with
        | cons d r =>
          cases r
          cases a
          cases b
          cases d
          exact ⟨_, rfl, h⟩
theorem deal_at {rs : List RuleD} (gd : ∀ r ∈ rs, RuleD.good r) {c : Int} {H : Hp} {x : V} (h : Td H x (tellsD rs .deal c)) : DealAt H x (dealO rs c) := by
  have f := tells_fits gd .deal c
  unfold dealO
  rcases isDeal_ex f with e | ⟨m, f', e, m0, m1, f0, f1⟩
  · rw [e] at h ⊢
    cases h
    exact rfl
  · rw [e] at h ⊢
    exact ⟨td_two h, by show 0 < m; omega, by show m ≤ 1000; omega, by show 0 ≤ f'; omega⟩
theorem no_none (ns : List Int) : inV .non (ns.map V.int) = false := by
  unfold inV
  rw [List.any_eq_false]
  intro x hx
  obtain ⟨i, -, rfl⟩ := List.mem_map.mp hx
  intro h
  cases h
theorem ints_flat (ns : List Int) : (ns.map V.int).all flatV = true := by
  rw [List.all_eq_true]
  intro x hx
  obtain ⟨i, -, rfl⟩ := List.mem_map.mp hx
  rfl
theorem at_ints {ns : List Int} {i : Nat} (h : i < ns.length) : atI (ns.map V.int) (0 + (i : Int)) = some (.int (ns.getD i 0)) := by
  have e : atI ns (0 + (i : Int)) = some (ns.getD i 0) := by
    unfold atI
    rw [ix_nat (by omega) h]
    simp [h]
  exact atI_map e
theorem at_bls {ns : List Bool} {i : Nat} (h : i < ns.length) : atI (ns.map V.bl) (0 + (i : Int)) = some (.bl (ns.getD i false)) := by
  have e : atI ns (0 + (i : Int)) = some (ns.getD i false) := by
    unfold atI
    rw [ix_nat (by omega) h]
    simp [h]
  unfold atI at e ⊢
  rw [List.length_map]
  cases hk : ixN ns.length (0 + (i : Int)) with
  | none => rw [hk] at e; cases e
  | some k =>
    rw [hk] at e
    show (ns.map V.bl)[k]? = _
    rw [List.getElem?_map, show ns[k]? = some (ns.getD i false) from e]
    rfl
def SoldAll (rs : List RuleD) (c g : Int) : Prop := ∀ n ∈ days c g, soldB rs n = true
def QBill (rs : List RuleD) (c g : Int) (H : Hp) (Q : VK) : Prop := ∀ (p q : Addr) (xs : List V) (H' : Hp), Same H H' → Fr H p → Fr H q → H' p = some (.tup [.int (sumD rs c g), .ref q, .int (numI rs .fee c)]) → H' q = some (.lst xs) → Tds H' xs ((rowsL rs c g).map rowD) → Q (.ref p) H'
def sp_bill (K : PySem.W.Frag) : Sp := Sp2 fun v y H Q E => CFR K ∧ CFB K ∧ ∃ (F : List Addr) (rs : List RuleD) (a : Addr) (c g : Int), y = .ref a ∧ BookAt K H F v rs ∧ (∀ r ∈ rs, RuleD.good r) ∧ SqT K H a [.int c, .int g] ∧ (c ≤ g ∧ g ≤ c + 900 ∧ -10000000 ≤ c ∧ c ≤ 10000000) ∧ SoldAll rs c g ∧ QBill rs c g H Q
theorem g_bill {K : PySem.W.Frag} {F : List Addr} {rs : List RuleD} {a : Addr} {c g : Int} {v : V} {H : Hp} {Q : VK} {E : XK} (cf : CFR K) (cb : CFB K) (h : BookAt K H F v rs) (gd : ∀ r ∈ rs, RuleD.good r) (s : SqT K H a [.int c, .int g]) (b : c ≤ g ∧ g ≤ c + 900 ∧ -10000000 ≤ c ∧ c ≤ 10000000) (so : SoldAll rs c g)
    (q : ∀ (p q : Addr) (xs : List V) (H' : Hp), Same H H' → Fr H p → Fr H q → H' p = some (.tup [.int (sumD rs c g), .ref q, .int (numI rs .fee c)]) → H' q = some (.lst xs) → Tds H' xs ((rowsL rs c g).map rowD) → Q (.ref p) H') : sp_bill K ([v, .ref a] ++ []) H Q E := ⟨_, _, rfl, cf, cb, F, rs, a, c, g, rfl, h, gd, s, b, so, q⟩
theorem g_sum {K : PySem.W.Frag} {H : Hp} {Q : VK} {p : Addr} {ns : List Int} (h : SqL K H p (ns.map V.int)) (q : Q (.int ns.sum) H) : rSum K [.ref p] H Q := ⟨p, ns, rfl, h, q⟩
def t_bill (K : PySem.W.Frag) : TS :=
  (tSeq (tAsg (tCall (sp_nights_of K) [] E0 (tCons (tVar 1) tNil)) (gName 2))
  (tSeq (tAsg (tLc (iList K (tVar 2)) (gName 7) tYes (tMeth (He.ga K "Book") "tells_of" (sp_Book_tells_of K) [] E0 (tVar 0) (tCons (tC (.str "price")) (tCons (tVar 7) tNil))) [7]) (gName 3))
  (tSeq (tIfS (tTest (tOp (rIn K false) (tC .non) (tVar 3)))
  tNever
  tNext)
  (tSeq (tAsg (tCall (sp_marked K) [] E0 (tCons (tVar 3) (tCons (tMeth (He.ga K "Book") "tells_of" (sp_Book_tells_of K) [] E0 (tVar 0) (tCons (tC (.str "deal")) (tCons (tOp (rIxT K) (tVar 1) (tC (.int 0))) tNil))) tNil))) (gName 4))
  (tSeq (tAsg (tMeth (He.ga K "Book") "tells_of" (sp_Book_tells_of K) [] E0 (tVar 0) (tCons (tC (.str "fee")) (tCons (tOp (rIxT K) (tVar 1) (tC (.int 0))) tNil))) (gName 5))
  (tSeq (tAsg (tLc (iRng1 (tCons (tCB (rLen K) (tCons (tVar 2) tNil)) tNil)) (gName 8) tYes (tTup (tCons (tOp (rIxL K) (tVar 2) (tVar 8)) (tCons (tOp (rIxL K) (tVar 3) (tVar 8)) (tCons (tOp (rIxL K) (tVar 4) (tVar 8)) tNil)))) [8]) (gName 6))
  (tRet (tTup (tCons (tOp rAdd (tVar 5) (tCB (rSum K) (tCons (tLc (iList K (tVar 6)) (gTup K 3 (gCons (gName 7) (gCons (gName 9) (gCons (gName 10) gNil)))) (tNot (tB (tVar 10))) (tVar 9) [7, 9, 10]) tNil))) (tCons (tVar 6) (tCons (tVar 5) tNil)))))))))))
theorem pure_bill {K : PySem.W.Frag} {v y : V} {H : Hp} {Q : VK} {E : XK} (h : sp_bill K [v, y] H Q E) : t_bill K { nx := fun _ H' => Q .non H', rt := Q } [some v, some y, none, none, none, none, none, none, none, none, none] H := by
  obtain ⟨v, y, e, cf, cb, F, rs, a, c, g, rfl, B, gd, hS, ⟨b0, b1, b2, b3⟩, so, q⟩ := h
  cases e
  unfold t_bill
  walk_at "ss"
  rename_i np H1 s1 f1 h1
  have B1 : BookAt K H1 F v rs := by walk_at "bk"
  have dl := days_len c g
  have hml : (List.map V.int (days c g)).length = (g - c).toNat := by rw [List.length_map]; exact dl
  refine lc_w (f := fun i => ((days c g)[i]?).bind fun n => some (V.int (numI rs .price n))) (walk_list (K := K) (a := np) (xs := (days c g).map V.int)) (by rw [List.length_map]; omega) (fun H' s => SqL.of (s _ _ h1)) ?_ ?_
  · rintro D i x H2 H3 N hD hi s2 ⟨rfl, hx⟩ hy hn
    obtain ⟨n, rfl, hn'⟩ := map_get hx
    have B2 : BookAt K H3 F v rs := by walk_at "bk"
    walk_at "ss"
    rename_i x H4 s4 hx4
    rcases price_v gd hx4 with ⟨e, rfl⟩ | ⟨e, rfl, -, -⟩
    · rw [so n (List.mem_of_getElem? hn')] at e
      cases e
    · exact hy _ _ (by rw [hn']; rfl) (by walk_at "sm")
  intro D H2 hD s2 h2
  have e2 : (List.range ((days c g).map V.int).length).filterMap (fun i => ((days c g)[i]?).bind fun n => some (V.int (numI rs .price n))) = (pricesL rs c g).map V.int := by
    rw [List.length_map, range_flt (days c g) (fun n => some (V.int (numI rs .price n))), fm_map]
    unfold pricesL
    rw [List.map_map]
    rfl
  rw [e2] at h2
  have pl := prices_len rs c g
  have ml := marks_len rs c g
  walk_at "ss"
  with_reducible refine g_seq ?_
  walk_at "ss"
  refine ⟨D, _, rfl, .inl (SqL.of h2), rfl, ints_flat _, ?_⟩
  rw [no_none]
  rw [if_neg (by decide)]
  walk_at "ss"
  rename_i xd H3 s3 hxd
  refine g_marked (dealO rs c) (by walk_at "sq") (by rw [pl]; omega) (deal_at gd hxd) fun l H4 s4 f4 h4 => ?_
  walk_at "ss"
  rename_i xf H5 s5 hxf
  obtain ⟨rfl, fe0, fe1⟩ := num_f gd hxf
  have hn5 : H5 np = some (.lst ((days c g).map V.int)) := by walk_at "at"
  have hp5 : H5 D = some (.lst ((pricesL rs c g).map V.int)) := by walk_at "at"
  have hm5 : H5 l = some (.lst ((marksL rs c g).map V.bl)) := s5 _ _ h4
  refine lc_r walk_range (fun G v d => Td G v d) (fun _ _ _ _ k h => h.tk k) (fun i => some (rowD (rowOf rs c g i))) (by rw [List.length_map]; omega) (fun _ _ => trivial) ?_ ?_
  · rintro D2 i x H6 H7 N hD2 hi s6 ⟨rfl, rfl⟩ hy -
    rw [List.length_map] at hi
    have a1 := at_ints (ns := days c g) (i := i) (by omega)
    have a2 := at_ints (ns := pricesL rs c g) (i := i) (by omega)
    have a3 := at_bls (ns := marksL rs c g) (i := i) (by omega)
    walk_at "ss"
    rename_i T hT
    exact hy _ _ _ rfl (by walk_at "sm") (.tup upd_same (.cons (.int _) (.cons (.int _) (.cons (.bl _) .nil))))
  intro D2 H6 ys hD2 s6 h6 hp6
  have e6 : (List.range ((days c g).map V.int).length).filterMap (fun i => some (rowD (rowOf rs c g i))) = (rowsL rs c g).map rowD := by
    rw [List.length_map, fm_map]
    unfold rowsL
    rw [List.map_map]
    rfl
  rw [Int.toNat_natCast, e6] at hp6
  have yl : ys.length = (rowsL rs c g).length := by rw [Paired.length hp6, List.length_map]
  have rl := rows_len rs c g
  have S6 : Same H H6 := by walk_at "sm"
  have fD2 : Fr H D2 := fr_of hD2 (by walk_at "sm")
  walk_at "ss"
  refine lc_w (f := fun i => ((rowsL rs c g)[i]?).bind fun r => (if r.2.2 then none else some r.2.1).map V.int) (walk_list (K := K) (a := D2) (xs := ys)) (by omega) (fun H' s => SqL.of (s _ _ h6)) ?_ ?_
  · rintro D3 i x H7 H8 N hD3 hi s7 ⟨rfl, hx⟩ hy hn
    obtain ⟨d, hd, hxd'⟩ := Paired.getL hp6 hx
    rw [List.getElem?_map] at hd
    cases hr : (rowsL rs c g)[i]? with
    | none => rw [hr] at hd; cases hd
    | some r =>
      rw [hr] at hd
      obtain rfl : rowD r = d := Option.some.inj hd
      obtain ⟨tq, rfl, htq⟩ := td_row (hxd'.tk (Same.tk s7))
      rw [hr] at hy hn
      walk_at "ss"
      cases hb : r.2.2 with
      | false =>
        rw [if_pos (by rfl)]
        walk_at "ss"
        exact hy _ _ (by simp [hb]) (Same.refl _)
      | true =>
        rw [if_neg (by decide)]
        exact hn _ (by simp [hb]) (Same.refl _)
  intro D3 H7 hD3 s7 h7
  have e7 : (List.range ys.length).filterMap (fun i => ((rowsL rs c g)[i]?).bind fun r => (if r.2.2 then none else some r.2.1).map V.int) = (paidL rs c g).map V.int := by
    rw [yl, range_flt (rowsL rs c g) (fun r => (if r.2.2 then none else some r.2.1).map V.int)]
    unfold paidL
    rw [List.map_filterMap]
  rw [e7] at h7
  walk_at "ss"
  refine g_sum (SqL.of h7) ?_
  walk_at "ss"
  rename_i p hp
  exact q p D2 ys _ (by walk_at "sm") (fr_of (fr_of hp s7) S6) fD2 upd_same (by walk_at "at") (tds_of (Paired.mapP hp6 fun _ _ z => z.tk (by exact (Same.tk s7).trans (tk_new hp))))
/-! YE: errors: raised, let out of defs, caught; the caught one is kept in the heap. -/
open PySem PySem.Spec PyProof.Rows L2
/-- an error that is kept at a: its class, its dict -/
def exK (a : Addr) (cls : Value) (d : Option Addr) : HO := .ext fun h => ∃ oe, h.get? a = some oe ∧ Zc cls d oe ∧ ∃ vs, oe.data = .fields vs
section
variable {P : Program} {w : World} {H : Hp} {h : Heap} {a : Addr} {cls : Value} {d : Option Addr}
end
section
variable {X : Cx} {pins : List (Addr × Obj)} {σ : L2.St} {H : Hp} {s : Shared} {a : Addr} {oe : Obj} {vs : Array Value} {cls : Value} {d : Option Addr}
end
/-- what the clause «except c as n» wishes of an error: n's slot is i; the error stays in the heap -/
def wKp (K : PySem.W.Frag) (c : Value) (i : Nat) (ts : TS) (Wout : WX) (D : Ends) : WX := fun cls d σ H =>
  ∃ b, PySem.W.exmOne K cls c = some b ∧
    (b = true → ∀ a, H a = none → ts { nx := fun τ H' => D.nx (τ.set i none) H', rt := D.rt, bk := fun τ H' => D.bk (τ.set i none) H', ct := fun τ H' => D.ct (τ.set i none) H' } (σ.set i (some (.ref a))) (upd H a (exK a cls d))) ∧
    (b = false → Wout cls d σ H)
/-- try: body / except c as n: suite -/
def tTryK (K : PySem.W.Frag) (c : Value) (i : Nat) (tb : WX → TS) (ts : TS) (Wout : WX) : TS := fun D σ H => tb (wKp K c i ts Wout D) D σ H
/-- try: body / except c: suite -/
def tTryO (K : PySem.W.Frag) (c : Value) (tb : WX → TS) (ts : TS) (Wout : WX) : TS := fun D σ H => tb (wOnly K c (fun _ _ _ => ts) Wout D) D σ H
section
variable {X : Cx} {x n : Str} {c : Value} {i : Nat} {body suite : List Stmt} {b₀ : Stmt} {np pos pos' : Pos} {tb : WX → TS} {ts : TS} {Wout : WX}
end

/-! ### what a kept error tells -/
/-- an error's class -/
structure ErrC (K : PySem.W.Frag) (x : Str) : Prop where
  ga : PySem.W.findIn K (.ref (He.ga K x)) "__getattribute__" = some (some (.builtin "BaseException.__getattribute__"))
  gg : PySem.W.findIn K (.ref (He.ga K x)) "__getattr__" = some none
  be : PySem.W.subIn K (.ref (He.ga K x)) (.type "BaseException") = some true
  hd : PySem.W.hasDictIn K (He.ga K x) = true
  ty : tyB K (He.ga K x) = true
  tt : PySem.W.typeIn K (.ref (He.ga K x)) = some (.type "type")
  kp : PySem.W.keepIn K (.ref (He.ga K x)) = true
  ic : PySem.W.isClsIn K (He.ga K x) = true
section
variable {K : PySem.W.Frag} {L : List Str} {x y : Str}
end
/-- at a: a kept error of the class x, its fields fs -/
def ExAt (K : PySem.W.Frag) (H : Hp) (a : Addr) (x : Str) (fs : List (Str × V)) : Prop := errB K x = true ∧
  ((fs = [] ∧ H a = some (exK a (.ref (He.ga K x)) none)) ∨ ∃ dd, H a = some (exK a (.ref (He.ga K x)) (some dd)) ∧ H dd = some (.xd fs))
/-- isinstance(e, c), e an error that is kept -/
def rIsK (K : PySem.W.Frag) : List V → Hp → VK → Prop := fun xs H Q => ∃ (a : Addr) (x : Str) (fs : List (Str × V)) (c : V) (cv : Value) (b : Bool), xs = [.ref a, c] ∧ ExAt K H a x fs ∧ (∀ u, RelV c u → u = cv) ∧
  PySem.W.kitOne K (.ref (He.ga K x)) cv = some b ∧ Q (.bl b) H
/-- e.f, e an error that is kept -/
def tXat (K : PySem.W.Frag) (te : TE) (f : Str) : TE := fun σ H Q => te σ H fun v H1 => ∃ (a : Addr) (x : Str) (fs : List (Str × V)) (y : V), v = .ref a ∧ ExAt K H1 a x fs ∧ PySem.W.findIn K (.ref (He.ga K x)) f = some none ∧ fs.lookup f = some y ∧ Q y H1
/-! ### what may let errors out -/
abbrev XW (E : XK) : WX := fun cls d _ H => E cls d H
section
variable {X : Cx} {CX : CXT} {k j : Nat} {f C : Addr} {fd : FuncData} {ps : List Str} {sp : Sp} {dvs : List V} {ds : List Value} {E : L2.St → XK} {W : WX} {x m : Str} {p pos apos : Pos} {e o : Expr} {es : List Expr} {ta : TE} {t : TA} {pins : List (Addr × Obj)} {σ : L2.St} {H : Hp} {s : Shared} {Q : VK} {us : List Value} {vs : List V}
/-- a call, a class that is made, a method, that may let an error out -/
def tCallX (sp : Sp) (dvs : List V) (W : WX) (t : TA) : TE := fun σ H Q => t σ H fun vs H1 => sp (vs ++ dvs) H1 Q (WE W σ)
def tMakeX (C : Addr) (sp : Sp) (dvs : List V) (W : WX) (t : TA) : TE := fun σ H Q => t σ H fun vs H1 => ∀ x dx, H1 x = none → H1 dx = none → dx ≠ x → sp (.ref x :: (vs ++ dvs)) (upd (upd H1 dx (.own x)) x (.ins C dx [])) (fun v H2 => v = .non ∧ Q (.ref x) H2) (WE W σ)
def tMethX (C : Addr) (m : Str) (sp : Sp) (dvs : List V) (W : WX) (ta : TE) (t : TA) : TE := fun σ H Q => ta σ H fun x H1 => ∃ a dx fs, x = .ref a ∧ H1 a = some (.ins C dx fs) ∧ fs.lookup m = none ∧ t σ H1 fun vs H2 => sp (.ref a :: (vs ++ dvs)) H2 Q (WE W σ)
/-- raise x('..'), x without own __init__ -/
def tRaiseB (K : PySem.W.Frag) (x : Str) (W : WX) : TS := fun _ σ H => exBare x K = true ∧ W (.ref (He.ga K x)) none σ H
end

/-! ### errors with an own __init__ -/
/-- StayError.__init__(self, ..) -/
def tStI (K : PySem.W.Frag) (ta : TA) : TE := fun σ H Q => exStay K = true ∧ ta σ H fun vs H1 => ∃ (a C : Addr) (ws : List V), vs = .ref a :: ws ∧ ws.length ≤ 1000 ∧ OexC K C ∧ H1 a = some (exo a C none) ∧ Q .non H1
section
variable {X : Cx} {W : WX} {p p1 p2 pos : Pos} {e : Expr} {es : List Expr} {ta : TA}
end
/-- what the __init__ of an error keeps: the field f -/
def sp_xinit (K : PySem.W.Frag) (x f : Str) : Sp := Sp2 fun v y H Q E => exInit x f K = true ∧ ∃ a, v = .ref a ∧ H a = some (exo a (He.ga K x) none) ∧ ∀ d, H d = none → d ≠ a → Q .non (upd (upd H d (exd d [(f, y)])) a (exo a (He.ga K x) (some d)))
def t_xinit (K : PySem.W.Frag) (f z : Str) : TS := tSeq (tDrop (tStI K (tCons (tVar 0) (tCons (tC (.str z)) tNil)))) (tOst K f (tVar 0) (tVar 1))
/-- the __init__ of an error's class -/
structure XIn (P : Program) (w : World) (K : PySem.W.Frag) (mg : Str → Option Value) (base : Heap) (k : Nat) (x f : Str) : Prop where
  ex : ∃ (fI : Addr) (fd : FuncData) (ps : List Str), FnOk P w K mg base CX0 k fI fd ps (sp_xinit K x f) ∧ mg x = some (.ref (He.ga K x)) ∧ Binds K fd ps [] ∧ PySem.W.findIn K (.ref (He.ga K x)) "__init__" = some (some (.ref fI)) ∧ PySem.W.typeIn K (.ref fI) = some (.type "function")
/-- raise x(e), x with its own __init__ -/
def rRaiseI (K : PySem.W.Frag) (x f : Str) (W : WX) (σ : L2.St) (y : V) (H1 : Hp) : Prop := [y].length ≤ 1000 ∧ ∀ a, H1 a = none → sp_xinit K x f (.ref a :: ([y] ++ [])) (upd H1 a (exo a (He.ga K x) none))
  (fun v H2 => v = .non ∧ ∃ (d : Addr) (fs : List (Str × V)), H2 a = some (exo a (He.ga K x) (some d)) ∧ H2 d = some (exd d fs) ∧ H1 d = none ∧ W (.ref (He.ga K x)) (some d) σ (upd (L2.del H2 a) d (.xd fs))) (fun _ _ _ => False)
def tRaiseI (K : PySem.W.Frag) (x f : Str) (W : WX) (te : TE) : TS := fun _ σ H => exInit x f K = true ∧ te σ H fun y H1 => rRaiseI K x f W σ y H1
section
variable {X : Cx} {W : WX} {k j : Nat} {x f : Str} {p pos pos' : Pos} {e : Expr} {te : TE}
end
/-! YBx: books of things that may be no rules, or too many. -/
open PySem PySem.Spec PyProof.Rows L2
/-- all are rules -/
def AllR (ds : List PyData) (rs : List RuleD) : Prop := ds.map asRule = rs.map some
def spx_Book_init (K : PySem.W.Frag) : Sp := Sp2 fun v y H Q E => CFR K ∧ CFB K ∧ exInit "NoRule" "number" K = true ∧ exBare "TooMany" K = true ∧ ∃ (a dx : Addr) (xs : List V) (ds : List PyData), v = .ref a ∧ H a = some (.ins (He.ga K "Book") dx []) ∧
  ((y = .non ∧ xs = []) ∨ ∃ p, y = .ref p ∧ SqL K H p xs) ∧ Paired (At H [a]) xs ds ∧ ds.length ≤ 1000 ∧
  (∀ i d dd H', ds[i]? = some d → asRule d = none → (∃ rs, AllR (ds.take i) rs) → Kp [a] H H' → H' dd = some (.xd [("number", .int (i : Nat))]) → E (.ref (He.ga K "NoRule")) (some dd) H') ∧
  (∀ rs H', AllR ds rs → 24 < rs.length → Kp [a] H H' → E (.ref (He.ga K "TooMany")) none H') ∧
  ∀ rs H' F, AllR ds rs → rs.length ≤ 24 → Kp [a] H H' → BookAt K H' F v rs → (∀ p ∈ F, Fr H p) → Q .non H'
def x_Book_init (K : PySem.W.Frag) (E : XK) : TS :=
  (tSeq (tAsg (tLst tNil) (gName 2))
  (tSeq (tIfS (tTest (tOp rNotN (tVar 1) (tC .non)))
  (tAsg (tCB (rListOf K) (tCons (tVar 1) tNil)) (gName 2))
  tNext)
  (tSeq (sFld K (tVar 0) (tLst tNil) "kept")
  (tSeq (sFld K (tVar 0) tDNewK "newest")
  (tSeq (tFor (iEnum K (tCons (tVar 2) tNil)) (gTup K 2 (gCons (gName 3) (gCons (gName 4) gNil)))
  (tSeq (tAsg (tCall (sp_rule_of K) [] E0 (tCons (tVar 4) tNil)) (gName 5))
  (tSeq (tIfS (tTest (tOp rIsN (tVar 5) (tC .non)))
  (tRaiseI K "NoRule" "number" (XW E) (tVar 3))
  tNext)
  (tSeq (tDrop (tBM K "list" rAppend (tFld K (tVar 0) "kept") (tCons (tVar 5) tNil)))
  (tDrop (tBM K "list" rInsert (tDSetd (tFld K (tVar 0) "newest") (tRule K "word" (sp_word K) (tVar 5) tNil) (tLst tNil)) (tCons (tC (.int 0)) (tCons (tVar 5) tNil))))))))
  (tIfS (tTest (tOp rGt (tCB (rLen K) (tCons (tVar 2) tNil)) (tC (.int 24))))
  (tRaiseB K "TooMany" (XW E))
  tNext))))))
/-! YLd: books laid over books. -/
open PySem PySem.Spec PyProof.Rows L2
def sp_laid (K : PySem.W.Frag) : Sp := Sp2 fun v u H Q E => CFR K ∧ CFB K ∧ ∃ F1 r1 F2 r2, BookAt K H F1 v r1 ∧ BookAt K H F2 u r2 ∧ r1.length + r2.length ≤ 24 ∧ (∀ r ∈ r1, RuleD.good r) ∧ (∀ r ∈ r2, RuleD.good r) ∧
  ∀ x F H', Same H H' → BookAt K H' F x (r1 ++ r2) → (∀ p ∈ F, Fr H p) → Q x H'
/-! YLx: books made, laid, of which some are refused: what the callers see. -/
open PySem PySem.Spec PyProof.Rows L2
/-- e.f of a kept error -/
def rXat (K : PySem.W.Frag) (f : Str) (v : V) (H1 : Hp) (Q : VK) : Prop := ∃ (a : Addr) (x : Str) (fs : List (Str × V)) (y : V), v = .ref a ∧ ExAt K H1 a x fs ∧ PySem.W.findIn K (.ref (He.ga K x)) f = some none ∧ fs.lookup f = some y ∧ Q y H1
def spx_laid (K : PySem.W.Frag) : Sp := Sp2 fun v u H Q E => CFR K ∧ CFB K ∧ exInit "NoRule" "number" K = true ∧ exBare "TooMany" K = true ∧ ∃ F1 r1 F2 r2, BookAt K H F1 v r1 ∧ BookAt K H F2 u r2 ∧ r1.length ≤ 24 ∧ r2.length ≤ 24 ∧ (∀ r ∈ r1, RuleD.good r) ∧ (∀ r ∈ r2, RuleD.good r) ∧
  (24 < r1.length + r2.length → ∀ H', Same H H' → E (.ref (He.ga K "TooMany")) none H') ∧
  (r1.length + r2.length ≤ 24 → ∀ x F H', Same H H' → BookAt K H' F x (r1 ++ r2) → (∀ p ∈ F, Fr H p) → Q x H')
/-! YCo: whether a stay can be had, what it costs. -/
open PySem PySem.Spec PyProof.Rows L2
def hadB (rs : List RuleD) (c g : Int) : Bool := decide (numI rs .least c ≤ g - c) && (decide (g - c ≤ numI rs .most c) && (comeB rs .come c && (comeB rs .go g && (days c g).all (soldB rs))))
def coinO (rs : List RuleD) (c g : Int) : Option Int := if hadB rs c g then some (sumD rs c g) else none
theorem had_sold {rs : List RuleD} {c g : Int} (h : hadB rs c g = true) : SoldAll rs c g := fun n hn => by
  unfold hadB at h
  simp only [Bool.and_eq_true] at h
  exact List.all_eq_true.mp h.2.2.2.2 n hn
def BkOk (K : PySem.W.Frag) (H : Hp) (v y : V) (rs : List RuleD) (c g : Int) : Prop := ∃ (F : List Addr) (a : Addr), y = .ref a ∧ BookAt K H F v rs ∧ (∀ r ∈ rs, RuleD.good r) ∧ SqT K H a [.int c, .int g] ∧ (c ≤ g ∧ g ≤ c + 900 ∧ -10000000 ≤ c ∧ c ≤ 10000000)
def sp_can_be_had (K : PySem.W.Frag) : Sp := Sp2 fun v y H Q E => CFR K ∧ CFB K ∧ ∃ rs c g, BkOk K H v y rs c g ∧ ∀ H', Same H H' → Q (.bl (hadB rs c g)) H'
def sp_coins_of (K : PySem.W.Frag) : Sp := Sp2 fun v y H Q E => CFR K ∧ CFB K ∧ ∃ rs c g, BkOk K H v y rs c g ∧ ∀ H', Same H H' → Q (if hadB rs c g then .int (sumD rs c g) else .non) H'
def spx_cost (K : PySem.W.Frag) : Sp := Sp2 fun v y H Q E => CFR K ∧ CFB K ∧ exInit "Barred" "bars" K = true ∧ ∃ rs c g, BkOk K H v y rs c g ∧ (hadB rs c g = true → ∀ H', Same H H' → Q (.int (sumD rs c g)) H') ∧
  (hadB rs c g = false → ∀ (p dd : Addr) (xs : List V) (H' : Hp), Same H H' → Fr H p → H' p = some (.lst xs) → Tds H' xs ((barsL rs c g).map barD) → H' dd = some (.xd [("bars", .ref p)]) → E (.ref (He.ga K "Barred")) (some dd) H')
theorem g_can {K : PySem.W.Frag} {F : List Addr} {rs : List RuleD} {a : Addr} {c g : Int} {v : V} {H : Hp} {Q : VK} {E : XK} (cf : CFR K) (cb : CFB K) (h : BookAt K H F v rs) (gd : ∀ r ∈ rs, RuleD.good r) (s : SqT K H a [.int c, .int g]) (b : c ≤ g ∧ g ≤ c + 900 ∧ -10000000 ≤ c ∧ c ≤ 10000000)
    (q : ∀ H', Same H H' → Q (.bl (hadB rs c g)) H') : sp_can_be_had K ([v, .ref a] ++ []) H Q E := ⟨_, _, rfl, cf, cb, rs, c, g, ⟨F, a, rfl, h, gd, s, b⟩, q⟩
theorem g_coins {K : PySem.W.Frag} {F : List Addr} {rs : List RuleD} {a : Addr} {c g : Int} {v : V} {H : Hp} {Q : VK} {E : XK} (cf : CFR K) (cb : CFB K) (h : BookAt K H F v rs) (gd : ∀ r ∈ rs, RuleD.good r) (s : SqT K H a [.int c, .int g]) (b : c ≤ g ∧ g ≤ c + 900 ∧ -10000000 ≤ c ∧ c ≤ 10000000)
    (q : ∀ H', Same H H' → Q (if hadB rs c g then .int (sumD rs c g) else .non) H') : sp_coins_of K ([v, .ref a] ++ []) H Q E := ⟨_, _, rfl, cf, cb, rs, c, g, ⟨F, a, rfl, h, gd, s, b⟩, q⟩
def t_can_be_had (K : PySem.W.Frag) : TS :=
  (tSeq (tAsg (tVar 1) (gTup K 2 (gCons (gName 2) (gCons (gName 3) gNil))))
  (tSeq (tIfS (tNot (tTest (tChain rLe rLe (tMeth (He.ga K "Book") "tells_of" (sp_Book_tells_of K) [] E0 (tVar 0) (tCons (tC (.str "least")) (tCons (tVar 2) tNil))) (tOp rSub (tVar 3) (tVar 2)) (tMeth (He.ga K "Book") "tells_of" (sp_Book_tells_of K) [] E0 (tVar 0) (tCons (tC (.str "most")) (tCons (tVar 2) tNil))))))
  (tRet (tC (.bl false)))
  tNext)
  (tSeq (tIfS (tOr (tNot (Y.tTru K (tMeth (He.ga K "Book") "tells_of" (sp_Book_tells_of K) [] E0 (tVar 0) (tCons (tC (.str "come")) (tCons (tVar 2) tNil))))) (tNot (Y.tTru K (tMeth (He.ga K "Book") "tells_of" (sp_Book_tells_of K) [] E0 (tVar 0) (tCons (tC (.str "go")) (tCons (tVar 3) tNil))))))
  (tRet (tC (.bl false)))
  tNext)
  (tSeq (tFor (iList K (tCall (sp_nights_of K) [] E0 (tCons (tVar 1) tNil))) (gName 4)
  (tIfS (tTest (tOp rIsN (tMeth (He.ga K "Book") "tells_of" (sp_Book_tells_of K) [] E0 (tVar 0) (tCons (tC (.str "price")) (tCons (tVar 4) tNil))) (tC .non)))
  (tRet (tC (.bl false)))
  tNext))
  (tRet (tC (.bl true)))))))
theorem pure_can_be_had {K : PySem.W.Frag} {v y : V} {H : Hp} {Q : VK} {E : XK} (h : sp_can_be_had K [v, y] H Q E) : t_can_be_had K { nx := fun _ H' => Q .non H', rt := Q } [some v, some y, none, none, none] H := by
  obtain ⟨v, y, e, cf, cb, rs, c, g, ⟨F, a, rfl, B, gd, hS, ⟨b0, b1, b2, b3⟩⟩, q⟩ := h
  cases e
  unfold t_can_be_had
  walk_at "ss"
  rename_i x1 H1 s1 hx1
  obtain ⟨rfl, l0, l1⟩ := num_n gd (.inl rfl) hx1
  have B1 := bk_same s1 B
  have S1 := Same.seqT s1 hS
  have hq : ∀ {b : Bool} {H' : Hp}, hadB rs c g = b → Same H H' → Q (.bl b) H' := fun e s => by
    rw [← e]
    exact q _ s
  walk_at "ss"
  have no : ∀ {H' : Hp}, (numI rs .least c ≤ g - c → g - c ≤ numI rs .most c → comeB rs .come c = true → comeB rs .go g = true → (days c g).all (soldB rs) = false) → Same H H' → Q (.bl false) H' := fun h s => hq (by
    unfold hadB
    by_cases h1 : numI rs .least c ≤ g - c
    · rw [decide_eq_true h1, Bool.true_and]
      by_cases h2 : g - c ≤ numI rs .most c
      · rw [decide_eq_true h2, Bool.true_and]
        cases h3 : comeB rs .come c with
        | false => rfl
        | true =>
          cases h4 : comeB rs .go g with
          | false => rfl
          | true => rw [h h1 h2 h3 h4]; rfl
      · rw [decide_eq_false h2]; rfl
    · rw [decide_eq_false h1]; rfl) s
  refine ite_b (fun z1 => ?_) fun z1 => ?_
  · walk_at "ss"
    rename_i x2 H2 s2 hx2
    obtain ⟨rfl, m0, m1⟩ := num_n gd (.inr rfl) hx2
    have B2 := bk_same s2 B1
    have z1' := of_decide_eq_true z1
    walk_at "ss"
    refine ite_nd (fun z2 => ?_) fun z2 => ?_
    · walk_at "ss"
      rename_i x3 H3 s3 hx3
      obtain rfl := come_b gd (.inl rfl) hx3
      have B3 := bk_same s3 B2
      walk_at "ss"
      cases z3 : comeB rs .come c with
      | false =>
        refine ite_nf ?_
        walk_at "ss"
        exact no (fun _ _ h _ => by rw [z3] at h; cases h) (by walk_at "sm")
      | true =>
        refine ite_nt ?_
        walk_at "ss"
        rename_i x4 H4 s4 hx4
        obtain rfl := come_b gd (.inr rfl) hx4
        have B4 := bk_same s4 B3
        walk_at "ss"
        cases z4 : comeB rs .go g with
        | false =>
          refine ite_nf ?_
          walk_at "ss"
          exact no (fun _ _ _ h => by rw [z4] at h; cases h) (by walk_at "sm")
        | true =>
          refine ite_nt ?_
          have SS : Same H H4 := by walk_at "sm"
          have S4 : SqT K H4 a [.int c, .int g] := Same.seqT SS hS
          clear s1 s2 s3 s4 hx1 hx2 hx3 hx4 B1 B2 B3 S1
          walk_at "ss"
          rename_i np H5 s5 f5 h5
          have B5 := bk_same s5 B4
          refine for_list (K := K) (a := np) (xs := (days c g).map V.int) (fun i σ H' => ∃ v4, σ = [some v, some (.ref a), some (.int c), some (.int g), v4] ∧ Same H5 H' ∧ ∀ n ∈ (days c g).take i, soldB rs n = true)
            ⟨_, rfl, Same.refl _, by simp⟩ (fun i σ H' _ h => by obtain ⟨_, _, h, _⟩ := h; exact SqL.of (h _ _ h5)) ?_ ?_
          · rintro i x σ H' hi ⟨v4, rfl, sm, hs⟩
            obtain ⟨n, rfl, hn⟩ := map_get hi
            have B6 := bk_same sm B5
            walk_at "ss"
            rename_i x6 H6 s6 hx6
            rcases price_v gd hx6 with ⟨e, rfl⟩ | ⟨e, rfl, -, -⟩
            · walk_at "ss"
              refine ite_dt rfl ?_
              walk_at "ss"
              refine no (fun _ _ _ _ => ?_) (by walk_at "sm")
              rw [List.all_eq_false]
              exact ⟨n, List.mem_of_getElem? hn, by rw [e]; decide⟩
            · walk_at "ss"
              refine ite_df (by simp) ?_
              walk_at "ss"
              refine ⟨_, rfl, by walk_at "sm", fun m hm => ?_⟩
              rw [List.take_add_one, hn] at hm
              rcases List.mem_append.mp hm with hm | hm
              · exact hs m hm
              · simp at hm
                rw [hm]
                exact e
          · rintro σ H' ⟨v4, rfl, sm, hs⟩
            walk_at "ss"
            rw [List.take_of_length_le (by rw [List.length_map]; exact Nat.le_refl _)] at hs
            refine hq ?_ (by walk_at "sm")
            unfold hadB
            rw [decide_eq_true z1', decide_eq_true z2, z3, z4, List.all_eq_true.mpr hs]
            rfl
    · walk_at "ss"
      exact no (fun _ h _ _ => absurd h z2) (by walk_at "sm")
  · walk_at "ss"
    exact no (fun h _ _ _ => absurd h (of_decide_eq_false z1)) (by walk_at "sm")
def t_coins_of (K : PySem.W.Frag) : TS :=
  (tSeq (tIfS (tNot (tB (tCall (sp_can_be_had K) [] E0 (tCons (tVar 0) (tCons (tVar 1) tNil)))))
  (tRet (tC .non))
  tNext)
  (tRet (tOp (rIxT K) (tCall (sp_bill K) [] E0 (tCons (tVar 0) (tCons (tVar 1) tNil))) (tC (.int 0)))))
theorem pure_coins_of {K : PySem.W.Frag} {v y : V} {H : Hp} {Q : VK} {E : XK} (h : sp_coins_of K [v, y] H Q E) : t_coins_of K { nx := fun _ H' => Q .non H', rt := Q } [some v, some y] H := by
  obtain ⟨v, y, e, cf, cb, rs, c, g, ⟨F, a, rfl, B, gd, hS, ⟨b0, b1, b2, b3⟩⟩, q⟩ := h
  cases e
  unfold t_coins_of
  walk_at "ss"
  refine g_can cf cb B gd hS ⟨b0, b1, b2, b3⟩ fun H1 s1 => ?_
  have B1 := bk_same s1 B
  have S1 := Same.seqT s1 hS
  walk_at "ss"
  cases hh : hadB rs c g with
  | false =>
    refine ite_nf ?_
    walk_at "ss"
    have := q H1 s1
    rw [hh] at this
    exact this
  | true =>
    refine ite_nt ?_
    walk_at "ss"
    refine g_bill cf cb B1 gd S1 ⟨b0, b1, b2, b3⟩ (had_sold hh) fun p z xs H2 s2 _ _ h1 _ _ => ?_
    walk_at "ss"
    have := q H2 (s1.trans s2)
    rw [hh] at this
    exact this
/-! YMk: the least: what is marked costs least. -/
open PySem PySem.Spec PyProof.Rows L2
def leP (a b : Pr) : Bool := decide (a.1 < b.1 ∨ (a.1 = b.1 ∧ a.2 ≤ b.2))
theorem sort_ex (l : List Pr) : ∃ us : List Pr, us.Perm l ∧ us.Pairwise fun p q => p.1 < q.1 ∨ (p.1 = q.1 ∧ p.2 ≤ q.2) :=
  ⟨l.mergeSort leP, List.mergeSort_perm l leP, (List.pairwise_mergeSort (fun a b c h1 h2 => by unfold leP at *; simp at *; omega) (fun a b => by unfold leP; simp; omega) l).imp fun h => by unfold leP at h; simpa using h⟩
/-- a sum over 0 .. n - 1 -/
def sumR (g : Nat → Int) (n : Nat) : Int := ((List.range n).map g).sum
theorem sumR_zero (g : Nat → Int) : sumR g 0 = 0 := rfl
theorem sumR_succ (g : Nat → Int) (n : Nat) : sumR g (n + 1) = sumR g n + g n := by
  unfold sumR
  rw [List.range_succ, List.map_append, List.sum_append]
  simp
theorem sumR_add (g : Nat → Int) (a : Nat) : ∀ b : Nat, sumR g (a + b) = sumR g a + sumR (fun j => g (a + j)) b
  | 0 => by rw [sumR_zero, Nat.add_zero, Int.add_zero]
  | b + 1 => by rw [← Nat.add_assoc, sumR_succ, sumR_add g a b, sumR_succ, Int.add_assoc]
theorem sumR_le {g h : Nat → Int} : ∀ {n : Nat}, (∀ i, i < n → g i ≤ h i) → sumR g n ≤ sumR h n
  | 0, _ => Int.le_refl _
  | n + 1, e => by
    rw [sumR_succ, sumR_succ]
    have := sumR_le (n := n) fun i hi => e i (by omega)
    have := e n (by omega)
    omega
theorem sumR_congr {g h : Nat → Int} {n : Nat} (e : ∀ i, i < n → g i = h i) : sumR g n = sumR h n :=
  Int.le_antisymm (sumR_le fun i hi => Int.le_of_eq (e i hi)) (sumR_le fun i hi => Int.le_of_eq (e i hi).symm)
theorem sumR_plus (g h : Nat → Int) : ∀ n : Nat, sumR (fun i => g i + h i) n = sumR g n + sumR h n
  | 0 => rfl
  | n + 1 => by
    rw [sumR_succ, sumR_succ, sumR_succ, sumR_plus g h n]
    omega
/-- the marked ones' part of a sum -/
def mkd (p : Nat → Int) (M : Nat → Bool) (i : Nat) : Int := if M i = true then p i else 0
def pr (ps : List Int) (i : Nat) : Int := ps.getD i 0
/-- what is free by a deal, what is paid -/
def markB (ps : List Int) : Option (Int × Int) → Nat → Bool
  | none => fun _ => false
  | some d => isMk ps d.1.toNat d.2.toNat
def freeS (ps : List Int) (d : Option (Int × Int)) : Int := sumR (mkd (pr ps) (markB ps d)) ps.length
def allS (ps : List Int) : Int := sumR (pr ps) ps.length
def paidS (ps : List Int) (d : Option (Int × Int)) : Int := allS ps - freeS ps d
/-! YMp: what a bill's sum is. -/
open PySem PySem.Spec PyProof.Rows L2
theorem mk_get {ps : List Int} {d : Option (Int × Int)} {i : Nat} (h : i < ps.length) : (mkO ps d).getD i false = markB ps d i := by
  cases d with
  | none =>
    show (List.replicate ps.length false).getD i false = false
    simp [h]
  | some x =>
    show ((List.range ps.length).map fun p => isMk ps x.1.toNat x.2.toNat p).getD i false = _
    rw [List.getD_eq_getElem?_getD, List.getElem?_map, List.getElem?_range h]
    rfl
theorem sum_fm {g : Nat → Option Int} : ∀ n : Nat, ((List.range n).filterMap g).sum = sumR (fun i => (g i).getD 0) n
  | 0 => rfl
  | n + 1 => by
    rw [List.range_succ, List.filterMap_append, List.sum_append, sum_fm n, sumR_succ]
    cases e : g n with
    | none => simp [e]
    | some x => simp [e]
theorem paid_eq (rs : List RuleD) (c g : Int) : (paidL rs c g).sum = paidS (pricesL rs c g) (dealO rs c) := by
  have hl := prices_len rs c g
  unfold paidL rowsL
  rw [List.filterMap_map, sum_fm, ← hl]
  unfold paidS allS freeS
  have e : ∀ i, i < (pricesL rs c g).length → pr (pricesL rs c g) i = (((fun r : Int × Int × Bool => if r.2.2 = true then none else some r.2.1) ∘ rowOf rs c g) i).getD 0 + mkd (pr (pricesL rs c g)) (markB (pricesL rs c g) (dealO rs c)) i := by
    intro i hi
    have hm : (marksL rs c g).getD i false = markB (pricesL rs c g) (dealO rs c) i := mk_get hi
    show _ = (if (marksL rs c g).getD i false = true then none else some ((pricesL rs c g).getD i 0)).getD 0 + _
    rw [hm]
    unfold mkd pr
    cases markB (pricesL rs c g) (dealO rs c) i with
    | true =>
      rw [if_pos rfl, if_pos rfl]
      show _ = 0 + _
      omega
    | false =>
      rw [if_neg (by decide), if_neg (by decide)]
      show _ = (pricesL rs c g).getD i 0 + 0
      omega
  rw [sumR_congr e, sumR_plus]
  omega
/-! YAl: the first of the shortest stays for which two books are not alike: it comes on a bound's day. -/
open PySem PySem.Spec PyProof.Rows L2
/-- how many days ahead of a change of a word those stays come for which it counts -/
def backR (w : Wd) (n : Nat) : List Int := match w with
  | .price => (List.range n).map fun (i : Nat) => (i : Int)
  | .go => [(n : Int)]
  | _ => [0]
/-- the days of coming on which stays of n nights may turn -/
def comeR (rs : List RuleD) (n : Nat) : List Int := rs.flatMap fun r => [r.f, r.l + 1].flatMap fun x => (backR r.w n).map fun b => x - b
/-- a stay's cost where all that counts is told alike -/
theorem coin_same {rs ss : List RuleD} {c c' : Int} {n : Nat} (hp : ∀ i : Nat, i < n → tellsD rs .price (c + i) = tellsD ss .price (c' + i)) (hg : tellsD rs .go (c + n) = tellsD ss .go (c' + n)) (ho : ∀ w, w ≠ .price → w ≠ .go → tellsD rs w c = tellsD ss w c') : coinO rs c (c + n) = coinO ss c' (c' + n) := by
  have n1 : ∀ w, w ≠ .price → w ≠ .go → numI rs w c = numI ss w c' := fun w a b => by unfold numI; rw [ho w a b]
  have e1 : comeB rs .come c = comeB ss .come c' := by unfold comeB; rw [ho _ (by decide) (by decide)]
  have e2 : comeB rs .go (c + n) = comeB ss .go (c' + n) := by unfold comeB; rw [hg]
  have e3 : (days c (c + n)).all (soldB rs) = (days c' (c' + n)).all (soldB ss) := by
    unfold days
    rw [List.all_map, List.all_map, show (c + n - c).toNat = n by omega, show (c' + n - c').toNat = n by omega]
    rw [Bool.eq_iff_iff, List.all_eq_true, List.all_eq_true]
    have : ∀ i ∈ List.range n, (soldB rs ∘ fun (i : Nat) => c + (i : Int)) i = (soldB ss ∘ fun (i : Nat) => c' + (i : Int)) i := fun i hi => by
      show soldB rs (c + i) = soldB ss (c' + i)
      unfold soldB
      rw [hp i (List.mem_range.mp hi)]
    exact ⟨fun h i hi => by rw [← this i hi]; exact h i hi, fun h i hi => by rw [this i hi]; exact h i hi⟩
  have e4 : pricesL rs c (c + n) = pricesL ss c' (c' + n) := by
    unfold pricesL days
    rw [List.map_map, List.map_map, show (c + n - c).toNat = n by omega, show (c' + n - c').toNat = n by omega]
    refine List.map_congr_left fun i hi => ?_
    show numI rs .price (c + i) = numI ss .price (c' + i)
    unfold numI
    rw [hp i (List.mem_range.mp hi)]
  have e5 : dealO rs c = dealO ss c' := by unfold dealO; rw [ho _ (by decide) (by decide)]
  have e6 : hadB rs c (c + n) = hadB ss c' (c' + n) := by
    unfold hadB
    rw [n1 .least (by decide) (by decide), n1 .most (by decide) (by decide), e1, e2, e3, show c + (n : Int) - c = c' + n - c' by omega]
  unfold coinO sumD
  rw [e6, paid_eq, paid_eq, e4, e5, n1 .fee (by decide) (by decide)]
theorem coin_turn {rs : List RuleD} {c : Int} {n : Nat} (h : coinO rs (c - 1) (c - 1 + n) ≠ coinO rs c (c + n)) : c ∈ comeR rs n := by
  have fin : ∀ {w : Wd} {x b : Int}, tellsD rs w (x - 1) ≠ tellsD rs w x → b ∈ backR w n → c = x - b → c ∈ comeR rs n := fun {w x b} h hb e => by
    obtain ⟨r, hr, hw, hx⟩ := tells_turn h
    refine List.mem_flatMap.mpr ⟨r, hr, List.mem_flatMap.mpr ⟨x, ?_, List.mem_map.mpr ⟨b, hw ▸ hb, e.symm⟩⟩⟩
    rcases hx with hx | hx
    · rw [← hx]; simp
    · rw [← hx]; simp
  by_cases z : c ∈ comeR rs n
  · exact z
  · refine absurd (coin_same (fun i hi => ?_) ?_ fun w a b => ?_) h
    · by_cases y : tellsD rs .price (c + i - 1) = tellsD rs .price (c + i)
      · rw [← y, show c - 1 + (i : Int) = c + i - 1 by omega]
      · exact absurd (fin (b := (i : Int)) y (List.mem_map.mpr ⟨i, List.mem_range.mpr hi, rfl⟩) (by omega)) z
    · by_cases y : tellsD rs .go (c + n - 1) = tellsD rs .go (c + n)
      · rw [← y, show c - 1 + (n : Int) = c + n - 1 by omega]
      · exact absurd (fin (b := (n : Int)) y (by simp [backR]) (by omega)) z
    · by_cases y : tellsD rs w (c - 1) = tellsD rs w c
      · exact y
      · exact absurd (fin (b := 0) y (by cases w <;> first | exact absurd rfl a | exact absurd rfl b | simp [backR]) (by omega)) z
/-- whether two books are unlike for the stay of n nights that comes on c -/
def unlikeB (rs ss : List RuleD) (n : Nat) (c : Int) : Bool := !decide (coinO rs c (c + n) = coinO ss c (c + n))
/-- the shortest, and of these the first, for which they are not alike -/
def apO (rs ss : List RuleD) : Option (Nat × Int) := ((List.range 14).map (· + 1)).findSome? fun n => (leastO (1000001 - n) (unlikeB rs ss n)).map fun c => (n, c)
theorem unlike_turn {rs ss : List RuleD} {n : Nat} {c : Int} (a : unlikeB rs ss n (c - 1) = false) (b : unlikeB rs ss n c = true) : c ∈ comeR rs n ++ comeR ss n := by
  by_cases e1 : coinO rs (c - 1) (c - 1 + n) = coinO rs c (c + n)
  · by_cases e2 : coinO ss (c - 1) (c - 1 + n) = coinO ss c (c + n)
    · unfold unlikeB at a b
      rw [e1, e2, b] at a
      cases a
    · exact List.mem_append_right _ (coin_turn e2)
  · exact List.mem_append_left _ (coin_turn e1)
/-- a list of days of coming good for two books and so many nights -/
structure ComesOk (L : List Int) (rs ss : List RuleD) (n : Nat) : Prop where
  up : L.Pairwise (· ≤ ·)
  zero : (0 : Int) ∈ L
  rng : ∀ c ∈ L, 0 ≤ c ∧ c ≤ 1000000 - n
  bnd : ∀ c ∈ comeR rs n ++ comeR ss n, 0 ≤ c → c ≤ 1000000 - n → c ∈ L
theorem ComesOk.find {L : List Int} {rs ss : List RuleD} {n : Nat} (hn : n ≤ 14) (h : ComesOk L rs ss n) : L.find? (unlikeB rs ss n) = leastO (1000001 - n) (unlikeB rs ss n) :=
  find_least h.up h.zero (fun c hc => by have := h.rng c hc; omega) fun c h1 h2 a b => h.bnd c (unlike_turn a b) (by omega) (by omega)
/-! YSt: sorted(set(xs)), xs a list of whole numbers, any number of them. -/
open PySem PySem.Spec PyProof.Rows L2
/-- an empty set as it is made -/
abbrev ES (w : World) : Obj := { cls := .type "set", dict := none, data := .set #[] 0 (.fresh 0 0 (!w.params.followText "set-order")) }
section
variable {P : Program} {w : World} {A : Around} {E : Value → Shared → Prop} {s : Shared}
set_option maxHeartbeats 8000000 in
theorem set_ofL {l : Addr} {xs : Array Value} (ns : List Int) {Q : Value → Shared → Prop} (hh : A.handled = none) (hl : s.heap.IsList l xs) (hi : IntsAre xs.toList ns) (few : ns.length + 1 < scanBound)
    (q : ∀ (h' : Heap) (tk c : Nat), c ≤ ns.length → SetR w h' s.heap.objs.size (fun j => decide (j ∈ ns)) c → (∀ b o, s.heap.get? b = some o → h'.get? b = some o) → Q (.ref s.heap.objs.size) { s with heap := h', toks := tk }) :
    wpAny (model P w) A (call (.type "set") [.ref l]) Q E s := by
  have sz : xs.size = ns.length := by rw [← hi.length, Array.length_toList]
  have ⟨c0, t0, h0⟩ := F.called_set.mro
  have hm := F.called_set.made
  have hs := F.called_set.sub
  refine wpAny_call (codeAny_of_tree (wpAny_pure ⟨Code.quiet_builtin _ (by decide +kernel), codeAny_builtin F.entry_type_call ?_⟩))
  rw [Around.under_plain (weight_type_call_type "set" [.ref l] []) rfl]
  have hn := F.called_set.notType
  have hc := F.called_set.canCreate
  have ht := F.typeCall_set_1 (.ref l)
  repeat any_goals first | assumption | wp_step
  refine codeAny_mono (code_set_led1 (.ref l) (E := E) (Q₁ := fun v s1 => v = .ref s.heap.objs.size ∧ s1 = { s with heap := s.heap.push (ES w) }) ⟨rfl, rfl⟩) fun r s1 hr => ?_
  cases r with
  | error e => exact hr
  | ok fl => cases fl with
  | ret v =>
    obtain ⟨rfl, rfl⟩ := hr
    have at0 : (s.heap.push (ES w)).get? s.heap.objs.size = some (ES w) := Heap.get?_push_size _ rfl
    have ty0 : Shared.TypeIs { s with heap := s.heap.push (ES w) } (.ref s.heap.objs.size) "set" := ⟨_, at0, rfl⟩
    have i1 := F.called_set.init.lookup
    have i2 := F.called_set.init.bind (.ref s.heap.objs.size)
    repeat any_goals first | assumption | wp_step
    refine codeAny_mono (codeAny_call_builtin (R := wants (fun r s2 => r = .none ∧ ∃ h' tk c, s2 = { s with heap := h', toks := tk } ∧ c ≤ ns.length ∧ SetR w h' s.heap.objs.size (fun j => decide (j ∈ ns)) c ∧ ∀ b o, s.heap.get? b = some o → h'.get? b = some o) E)
      F.called_set.init.plain F.entry_set_init (check_set_init_1 ty0 ?_)) fun r s2 hr => ?_
    · obtain ⟨⟨oc, od, oa, os⟩, ho, e1, nl, e2⟩ := hl
      cases e1
      cases e2
      have hl1 : (s.heap.push (ES w)).IsList l xs := ⟨_, Heap.get?_push_of_some _ ho, rfl, nl, rfl⟩
      have ho1 : (s.heap.push (ES w)).get? l = some { cls := .type "list", dict := od, data := .seq xs nl, slots := os } := Heap.get?_push_of_some _ ho
      have s1 := F.sub_list_set
      have s2 := F.sub_list_frozenset
      have nd : (Value.type "list" == Value.type "dict") = false := by decide
      unfold Builtin.«set.__init__» noKeywords Builtin.Frozenset.updateFrom
      generalize hPI : pyIter = PI
      wp_walk
      subst hPI
      refine wpAny_pyIter_list hl1 (wpAny_bind (wpAny_runValue ?_))
      have lt : l < s.heap.objs.size := Heap.lt_size ho
      have n1 : l ≠ (s.heap.push (ES w)).objs.size := by rw [Heap.size_push]; exact Nat.ne_of_lt (Nat.lt_succ_of_lt lt)
      have n2 : s.heap.objs.size ∉ [(s.heap.push (ES w)).objs.size, l] := by
        rw [Heap.size_push]
        intro z
        rcases List.mem_cons.mp z with z | z
        · exact absurd z (Nat.ne_of_lt (Nat.lt_succ_self _))
        · exact absurd (List.mem_singleton.mp z) (Nat.ne_of_gt lt)
      refine set_update_ints ((Walks.list (A := A.in1.in1.in1) (by simp [hh]) _ l n1 xs).toS) s.heap.objs.size n2 ns sz few (fun i v hv => ?_) (xs.size - 0) 0 _ (by omega) (Nat.zero_le _) ⟨⟨_, Heap.get?_push_size _ rfl, rfl, rfl⟩, hl1.push _⟩ ⟨0, Nat.le_refl 0, setR_new_at (Heap.get?_push_of_some _ at0)⟩ ?_
      · have lti : i < ns.length := sz ▸ (Array.getElem?_eq_some_iff.mp hv).1
        obtain ⟨t, e⟩ := PyProof.Rows.IntsAre.int_at hi i v (by rw [Array.getElem?_toList, hv])
        rw [List.getD_eq_getElem?_getD, List.getElem?_eq_getElem lti] at e
        exact ⟨_, t, List.getElem?_eq_getElem lti, e⟩
      · rintro ⟨h', g', d', tk', os'⟩ c mv hc R
        cases (show g' = s.gens from mv.gens)
        cases (show d' = s.drawn from mv.drawn)
        cases (show os' = s.os from mv.os)
        show wpAny _ _ _ _ _ _
        refine wpAny_pure ?_
        show wpAny _ _ (ret Value.none) _ _ _
        refine wpAny_pure ⟨rfl, h', tk', c, rfl, by omega, R, fun b o e => ?_⟩
        have lb : b < s.heap.objs.size := Heap.lt_size e
        refine mv.heap b o (fun z => ?_) (Heap.get?_push_of_some _ (Heap.get?_push_of_some _ e))
        rcases List.mem_cons.mp z with z | z
        · exact absurd z (Nat.ne_of_lt lb)
        · have z := List.mem_singleton.mp z
          rw [Heap.size_push] at z
          exact absurd z (Nat.ne_of_lt (Nat.lt_succ_of_lt lb))
    · cases r with
      | error e => exact hr
      | ok fl => cases fl with
      | ret v =>
        obtain ⟨rfl, h', tk, c, rfl, hc, R, k⟩ := hr
        repeat any_goals first | assumption | wp_step
        exact q _ _ _ hc R k
      | _ => exact hr.elim
  | _ => exact hr.elim
theorem sort_set {a : Addr} {S : Int → Bool} {n : Nat} {Q : Value → Shared → Prop} (R : SetR w s.heap a S n) (hh : A.handled = none) (few : n ≤ 4000)
    (q : ∀ s' p (out : List Value) (c : Nat) (ns : List Int), (∀ b o, s.heap.get? b = some o → s'.heap.get? b = some o) → s'.gens = s.gens → s'.os = s.os → s.heap.objs.size ≤ p →
      s'.heap.get? p = some (seqObj "list" out.toArray c) → IntsAre out ns → ns.Pairwise (· < ·) → (∀ k, k ∈ ns ↔ S k = true) → ns.length = n → Q (.ref p) s') :
    wpAny (model P w) A (call (.builtin "sorted") [.ref a]) Q E s := by
  obtain ⟨o, es, ep, t, ho, ⟨ho1, -⟩, hd, g, nd, hm, hb, hf, hn, hr, hl⟩ := R
  refine Calls.call_function_entry kind_sorted plain_sorted entry_sorted (args_sorted1 _) ?_
  unfold Builtin.«sorted»
  refine wpAny_bind (m := checkCount "sorted" 1 1 _) (wpAny_pure (wpAny_bind (collect_set (A := A.in1) hh ⟨o, ho, ho1, hd⟩ hf hb hr hl fun s1 vs k1 hz g1 o1 pm => ?_)))
  have lv : vs.length = n := by rw [pm.length_eq, List.length_map, Array.length_toList]; exact hn
  have lz : vs.length ≤ sizeLine := by rw [lv, sizeLine_eq]; omega
  have iv : IntsAre vs (vs.map Builtin.Re.reRawOf) := ints_of vs fun v hv => by
    obtain ⟨e, he, rfl⟩ := List.mem_map.mp (pm.mem_iff.mp hv)
    obtain ⟨k, tk, h1, -⟩ := g e he
    exact ⟨k, tk, h1⟩
  have pk : (vs.map Builtin.Re.reRawOf).Perm (es.toList.map keyOf) := by
    have := pm.map Builtin.Re.reRawOf
    rw [List.map_map] at this
    exact this
  have hoL : (s1.heap.push (seqObj "list" vs.toArray 0)).get? s1.heap.objs.size = some (seqObj "list" vs.toArray 0) := Heap.get?_push_size _ rfl
  refine wpAny_bind (wpAny_newList (wpAny_bind (wpAny_holding (wpAny_call_entry slot_list_sort ⟨_, hoL, rfl⟩ entry_list_sort
    (SrtO.list_sort_ord SrtO.swo_int hoL lz (fun h2 => SrtO.ints_sortable iv h2) fun out h1 h2 => ⟨_, rfl, ?_⟩) (args_list_sort _)))) lz)
  obtain ⟨i1, i2, i3⟩ := SrtO.ints_out iv h1 h2
  obtain ⟨c, hc⟩ := PyProof.Rows.sortedHeap_at (vs := vs) (out := out.toArray) hoL
  have pn := i2.trans pk
  refine wpAny_pure ⟨_, rfl, q _ s1.heap.objs.size out c _ (fun b u e => ?_) g1 o1 hz hc i1 (lt_of_le_nodup _ i3 (pn.nodup_iff.mpr nd)) (fun k => by rw [pn.mem_iff, ← hm k]) ?_⟩
  · have e1 := k1 b u e
    have lt := Heap.lt_size e1
    show (sortedHeap (s1.heap.push (seqObj "list" vs.toArray 0)) s1.heap.objs.size vs out.toArray).get? b = some u
    rw [PyProof.Rows.sortedHeap_old (Nat.ne_of_lt lt) (by rw [size_push']; exact Nat.lt_succ_of_lt lt)]
    exact Heap.get?_push_of_some _ e1
  · rw [pn.length_eq, List.length_map, Array.length_toList, hn]
end
/-- sorted(set(xs)) -/
def tSortSet (K : PySem.W.Frag) (ta : TE) : TE := fun σ H Q => ta σ H fun x H1 => ∃ (l : Addr) (ns : List Int), x = .ref l ∧ SqL K H1 l (ns.map V.int) ∧ ns.length ≤ 4000 ∧
  ∀ (out : List Int) (p : Addr), Fr H1 p → out.Pairwise (· < ·) → out.length ≤ ns.length → (∀ k, k ∈ out ↔ k ∈ ns) → Q (.ref p) (upd H1 p (.lst (out.map V.int)))
theorem pe_sortSet {X : Cx} {a : Expr} {ta : TE} {p p2 q pos : Pos} (hg : Gl X "sorted") (hm : X.mg "sorted" = none) (hg2 : Gl X "set") (hm2 : X.mg "set" = none) (ha : PE X a ta) (hc : X.calm = true := by rfl)
    (na : starEach [a] X.env = (false, eval a X.env) :: starEach [] X.env := by rfl) : PE X (.Call (.Name "sorted" p) [.Call (.Name "set" p2) [a] [] q] [] pos) (tSortSet X.K ta) := by
  refine ⟨fun pins s σ H Q I h => Call_ (ld_blt I hg hm boot_sorted (PyProof.Rows.callWith_builtin1 (PyProof.Rows.args_cons ?_ rfl) rfl rfl))⟩
  refine Call_ (ld_blt I hg2 hm2 PyProof.Rows.boot_set (PyProof.Rows.callWith_type1 (PyProof.Rows.args_cons (thn (ha.run pins s σ H _ I h) fun v s1 ⟨x, H1, I1, r1, q1⟩ => PyProof.Rows.args_nil ?_) na) na rfl))
  obtain ⟨l, ns, rfl, hq, hl, q1⟩ := q1
  cases r1
  obtain ⟨its, r, pl, hz⟩ := I1.list hq
  refine set_ofL ns (I1.ok.hd hc) pl.isList (by simpa using r.ints) (by unfold scanBound; omega) fun h' tk c lc R k => PyProof.Rows.args_nil ?_
  have I2 : Inv X pins σ H1 { s1 with heap := h', toks := tk } := I1.kept fun b o e => k b o e
  refine sort_set (s := { s1 with heap := h', toks := tk }) R (I2.ok.hd hc) (by omega) fun s' p out c' ms k2 g o hp hg' hi hs hm' hl' => ?_
  have few : (ms.map V.int).length ≤ sizeLine := by rw [List.length_map, hl', sizeLine_eq]; omega
  have hn : H1 p = none := I2.hok.fresh hp
  have J : Inv X pins σ (upd H1 p (.lst (ms.map V.int))) { ({ s1 with heap := h', toks := tk } : Shared) with heap := s'.heap, gens := s'.gens, drawn := s'.drawn, toks := s'.toks } :=
    I2.call (ch := []) (Un.laid k2 hp hn) (I2.hok.laid k2 hp ⟨few, out, c', vals_of_ints hi, hg'⟩) (by rw [g]; exact I2.bare) (fun _ z => nomatch z)
  have e : s' = { s1 with heap := s'.heap, gens := s'.gens, drawn := s'.drawn, toks := s'.toks } := by
    cases s'
    cases s1
    cases o
    rfl
  rw [e]
  exact ⟨.ref p, _, J, rfl, q1 ms p hn hs (by omega) fun j => by rw [hm', decide_eq_true_eq]⟩
theorem g_sortSet {K : PySem.W.Frag} {n : Nat} {l : Addr} {ns : List Int} {σ : L2.St} {H : Hp} {Q : VK} (e : σ[n]? = some (some (.ref l))) (h : SqL K H l (ns.map V.int)) (z : ns.length ≤ 4000) (q : ∀ (out : List Int) (p : Addr), Fr H p → out.Pairwise (· < ·) → out.length ≤ ns.length → (∀ k, k ∈ out ↔ k ∈ ns) → Q (.ref p) (upd H p (.lst (out.map V.int)))) : tSortSet K (tVar n) σ H Q :=
  ⟨_, e, l, ns, rfl, h, z, q⟩
/-! YAw: the stays for which two books are not alike. -/
open PySem PySem.Spec PyProof.Rows L2
theorem flt_rng (n : Nat) (l : List Int) : (l.filterMap fun d => if 0 ≤ d ∧ d ≤ 1000000 - (n : Int) then some d else none) = l.filter fun d => decide (0 ≤ d ∧ d ≤ 1000000 - (n : Int)) := by
  induction l with
  | nil => rfl
  | cons a l ih =>
    by_cases z : 0 ≤ a ∧ a ≤ 1000000 - (n : Int)
    · rw [List.filterMap_cons, if_pos z, List.filter_cons, if_pos (decide_eq_true z), ih]
    · rw [List.filterMap_cons, if_neg z, List.filter_cons, if_neg (by simpa using z), ih]
theorem back_len (w : Wd) (n : Nat) : (backR w n).length ≤ n + 1 := by
  unfold backR
  split <;> simp
theorem come_len (rs : List RuleD) (n : Nat) : (comeR rs n).length ≤ rs.length * (2 * (n + 1)) := by
  induction rs with
  | nil => simp [comeR]
  | cons r rs ih =>
    have e : comeR (r :: rs) n = ([r.f, r.l + 1].flatMap fun x => (backR r.w n).map fun b => x - b) ++ comeR rs n := rfl
    rw [e, List.length_append, List.length_cons, Nat.add_mul]
    have := back_len r.w n
    have e2 : ([r.f, r.l + 1].flatMap fun x => (backR r.w n).map fun b => x - b).length = 2 * (backR r.w n).length := by
      simp
      omega
    rw [e2]
    omega
theorem come_snoc (rs : List RuleD) (r : RuleD) (n : Nat) : comeR (rs ++ [r]) n = comeR rs n ++ [r.f, r.l + 1].flatMap fun x => (backR r.w n).map fun b => x - b := by
  unfold comeR
  simp
def sp_backs_of (K : PySem.W.Frag) : Sp := Sp2 fun x y H Q E => ∃ (w : Wd) (n : Nat), x = .str w.word ∧ y = .int (n : Nat) ∧ n ≤ 1000 ∧ ∀ (p : Addr) (H' : Hp), Same H H' → Fr H p → H' p = some (.lst ((backR w n).map V.int)) → Q (.ref p) H'
theorem g_backs_of {K : PySem.W.Frag} {w : Wd} {n : Nat} {H : Hp} {Q : VK} {E : XK} (l : n ≤ 1000) (q : ∀ (p : Addr) (H' : Hp), Same H H' → Fr H p → H' p = some (.lst ((backR w n).map V.int)) → Q (.ref p) H') : sp_backs_of K ([.str w.word, .int (n : Nat)] ++ []) H Q E :=
  ⟨_, _, rfl, w, n, rfl, rfl, l, q⟩
def sp_comes_of (K : PySem.W.Frag) : Sp := Sp2 fun x y H Q E => CFR K ∧ CFB K ∧ ∃ (p : Addr) (v u : V) (rs ss : List RuleD) (n : Nat), x = .ref p ∧ y = .int (n : Nat) ∧ SqL K H p [v, u] ∧ BkAt K H v rs ∧ BkAt K H u ss ∧ rs.length ≤ 24 ∧ ss.length ≤ 24 ∧ n ≤ 14 ∧
  ∀ (L : List Int) (l : Addr) (H' : Hp), Same H H' → Fr H l → H' l = some (.lst (L.map V.int)) → ComesOk L rs ss n → Q (.ref l) H'
theorem g_comes_of {K : PySem.W.Frag} {p : Addr} {v u : V} {rs ss : List RuleD} {n : Nat} {H : Hp} {Q : VK} {E : XK} (cf : CFR K) (cb : CFB K) (h : SqL K H p [v, u]) (b1 : BkAt K H v rs) (b2 : BkAt K H u ss) (l1 : rs.length ≤ 24) (l2 : ss.length ≤ 24) (hn : n ≤ 14)
    (q : ∀ (L : List Int) (l : Addr) (H' : Hp), Same H H' → Fr H l → H' l = some (.lst (L.map V.int)) → ComesOk L rs ss n → Q (.ref l) H') : sp_comes_of K ([.ref p, .int (n : Nat)] ++ []) H Q E :=
  ⟨_, _, rfl, cf, cb, p, v, u, rs, ss, n, rfl, rfl, h, b1, b2, l1, l2, hn, q⟩
def coV : Option Int → V | some i => .int i | none => .non
def coD : Option Int → PyData | some i => .int i | none => .none
theorem co_td (H : Hp) (o : Option Int) : Td H (coV o) (coD o) := by cases o <;> constructor
theorem co_eqv (a b : Option Int) : PyData.eqv (coD a) (coD b) = decide (a = b) := by
  cases a with
  | none => cases b with
    | none => simp [coD, PyData.eqv]
    | some j => simp [coD, PyData.eqv]
  | some i => cases b with
    | none => simp [coD, PyData.eqv]
    | some j => show PyData.eqv (.int i) (.int j) = _; rw [eqv_i]; simp
theorem sh_co (o : Option Int) (n : Nat) : Sh n (coD o) := by
  cases o with
  | none => exact sh_non _
  | some i => exact sh_int _ _
theorem g_neD_co {K : PySem.W.Frag} {H : Hp} {Q : VK} {a b : Option Int} (q : Q (.bl (!decide (a = b))) H) : rNeD K (coV a) (coV b) H Q :=
  ⟨_, _, (co_td H a).dp, (co_td H b).dp, (sh_co a 0).ok (by decide), (sh_co b 0).ok (by decide), by rw [co_eqv]; exact q⟩
/-- what apart tells -/
def QAp (rs ss : List RuleD) (H : Hp) (Q : VK) : Prop := (apO rs ss = none → ∀ H', Same H H' → Q .non H') ∧ (∀ (n : Nat) (c : Int), apO rs ss = some (n, c) → ∀ (p q : Addr) (H' : Hp), Same H H' → Fr H p → Fr H q → H' p = some (.tup [.ref q, coV (coinO rs c (c + n)), coV (coinO ss c (c + n))]) → H' q = some (.tup [.int c, .int (c + n)]) → Q (.ref p) H')
def sp_apart (K : PySem.W.Frag) : Sp := Sp2 fun x y H Q E => CFR K ∧ CFB K ∧ ∃ (rs ss : List RuleD), BkAt K H x rs ∧ BkAt K H y ss ∧ (∀ r ∈ rs, RuleD.good r) ∧ (∀ r ∈ ss, RuleD.good r) ∧ rs.length ≤ 12 ∧ ss.length ≤ 12 ∧ QAp rs ss H Q
theorem g_apart {K : PySem.W.Frag} {x y : V} {rs ss : List RuleD} {H : Hp} {Q : VK} {E : XK} (cf : CFR K) (cb : CFB K) (b1 : BkAt K H x rs) (b2 : BkAt K H y ss) (g1 : ∀ r ∈ rs, RuleD.good r) (g2 : ∀ r ∈ ss, RuleD.good r) (l1 : rs.length ≤ 12) (l2 : ss.length ≤ 12) (q : QAp rs ss H Q) : sp_apart K ([x, y] ++ []) H Q E :=
  ⟨_, _, rfl, cf, cb, rs, ss, b1, b2, g1, g2, l1, l2, q⟩
def t_backs_of (K : PySem.W.Frag) : TS :=
  (tSeq (tIfS (tTest (tOp rEq (tVar 0) (tC (.str "price"))))
  (tRet (tLstRg (tRg1 (tVar 1))))
  tNext)
  (tSeq (tIfS (tTest (tOp rEq (tVar 0) (tC (.str "go"))))
  (tRet (tLst (tCons (tVar 1) tNil)))
  tNext)
  (tRet (tLst (tCons (tC (.int 0)) tNil)))))
theorem pure_backs_of {K : PySem.W.Frag} {x y : V} {H : Hp} {Q : VK} {E : XK} (h : sp_backs_of K [x, y] H Q E) : t_backs_of K { nx := fun _ H' => Q .non H', rt := Q } [some x, some y] H := by
  obtain ⟨x, y, e, w, n, rfl, rfl, l, q⟩ := h
  cases e
  unfold t_backs_of
  have cg : w = .price ∨ w = .go ∨ (w ≠ .price ∧ w ≠ .go) := by cases w <;> simp
  walk_at "ss"
  rcases cg with rfl | rfl | ⟨a, b⟩
  · refine ite_dt rfl ?_
    walk_at "ss"
    refine ⟨⟨by omega, by omega, by omega, by omega, by omega⟩, fun p hp => q p _ (same_new hp) hp ?_⟩
    rw [upd_same]
    unfold rgV backR
    rw [List.map_map, show ((n : Int) - 0).toNat = n by omega]
    congr 2
    refine List.map_congr_left fun i _ => ?_
    show V.int (0 + (i : Int)) = V.int (i : Int)
    rw [Int.zero_add]
  · refine ite_df (by decide) ?_
    walk_at "ss"
    refine ite_dt rfl ?_
    walk_at "ss"
    rename_i p hp
    exact q p _ (same_new hp) hp upd_same
  · refine ite_df (fun z => a (Wd.word_inj (V.str.inj z))) ?_
    walk_at "ss"
    refine ite_df (fun z => b (Wd.word_inj (V.str.inj z))) ?_
    walk_at "ss"
    rename_i p hp
    refine q p _ (same_new hp) hp ?_
    rw [upd_same]
    cases w <;> first | exact absurd rfl a | exact absurd rfl b | rfl
def t_comes_of (K : PySem.W.Frag) : TS :=
  (tSeq (tAsg (tLst (tCons (tC (.int 0)) tNil)) (gName 2))
  (tSeq (tFor (iList K (tVar 0)) (gName 3)
  (tFor (iList K (tMeth (He.ga K "Book") "rules" (sp_Book_rules K) [] E0 (tVar 3) tNil)) (gTup K 4 (gCons (gName 4) (gCons (gName 5) (gCons (gName 6) (gCons (gName 7) gNil)))))
  (tFor (iTup K (tTup (tCons (tVar 5) (tCons (tOp rAdd (tVar 6) (tC (.int 1))) tNil)))) (gName 8)
  (tDrop (tBM K "list" rExtend (tVar 2) (tCons (tLc (iList K (tCall (sp_backs_of K) [] E0 (tCons (tVar 4) (tCons (tVar 1) tNil)))) (gName 10) tYes (tOp rSub (tVar 8) (tVar 10)) [10]) tNil))))))
  (tRet (tLc (iList K (Y.tSortSet K (tVar 2))) (gName 9) (tTest (tChain rLe rLe (tC (.int 0)) (tVar 9) (tOp rSub (tC (.int 1000000)) (tVar 1)))) (tVar 9) [9]))))
theorem pure_comes_of {K : PySem.W.Frag} {x y : V} {H : Hp} {Q : VK} {E : XK} (h : sp_comes_of K [x, y] H Q E) : t_comes_of K { nx := fun _ H' => Q .non H', rt := Q } [some x, some y, none, none, none, none, none, none, none, none, none] H := by
  obtain ⟨x, y, e, cf, cb, p, v, u, rs, ss, n, rfl, rfl, hp, b1, b2, l1, l2, hn, q⟩ := h
  cases e
  unfold t_comes_of
  have cl := fun ts : List RuleD => come_len ts n
  have cb24 : ∀ ts : List RuleD, ts.length ≤ 24 → (comeR ts n).length ≤ 720 := fun ts h => by
    refine Nat.le_trans (cl ts) (Nat.le_trans (Nat.mul_le_mul h (show 2 * (n + 1) ≤ 30 by omega)) (by decide))
  walk_at "ss"
  rename_i l hl
  refine for_list (K := K) (a := p) (xs := [v, u]) (fun i σ H' => ∃ v3 v4 v5 v6 v7 v8, σ = [some (.ref p), some (.int (n : Nat)), some (.ref l), v3, v4, v5, v6, v7, v8, none, none] ∧ Same H H' ∧ H' l = some (.lst ((0 :: (([rs, ss].take i).flatMap fun ts => comeR ts n)).map V.int))) ⟨_, _, _, _, _, _, rfl, same_new hl, upd_same⟩ (fun i σ H' _ h => by obtain ⟨_, _, _, _, _, _, _, h, _⟩ := h; exact sql_same h hp) ?_ ?_
  · rintro i x σ H1 hi ⟨v3, v4, v5, v6, v7, v8, rfl, s1, h1⟩
    obtain ⟨ts, hts, hx, lt, et⟩ : ∃ ts, [rs, ss][i]? = some ts ∧ BkAt K H x ts ∧ ts.length ≤ 24 ∧ ((([rs, ss].take i).flatMap fun ts => comeR ts n)).length ≤ 720 := by
      match i, hi with
      | 0, hi => cases hi; exact ⟨rs, rfl, b1, l1, by simp⟩
      | 1, hi => cases hi; exact ⟨ss, rfl, b2, l2, by simpa using cb24 rs l1⟩
    obtain ⟨F, bk⟩ := hx.same s1
    generalize hpre : (([rs, ss].take i).flatMap fun ts => comeR ts n) = pre at h1 et
    walk_at "ss"
    rename_i q2 H2 ys s2 f2 h2 r2
    have nlq : l ≠ q2 := ne_of_none h1 f2
    have yl := ru_len r2
    refine for_list (K := K) (a := q2) (xs := ys) (fun j σ H' => ∃ v4 v5 v6 v7 v8, σ = [some (.ref p), some (.int (n : Nat)), some (.ref l), some x, v4, v5, v6, v7, v8, none, none] ∧ Same H H' ∧ H' l = some (.lst ((0 :: (pre ++ comeR (ts.take j) n)).map V.int)) ∧ H' q2 = some (.lst ys) ∧ Rus H' ys ts) ⟨_, _, _, _, _, rfl, s1.trans s2, by simpa [comeR] using s2 _ _ h1, h2, r2⟩ (fun i σ H' _ h => by obtain ⟨_, _, _, _, _, _, _, _, h, _⟩ := h; exact SqL.of h) ?_ ?_
    · clear s1 s2 h1 h2 r2 bk
      rintro j y σ H3 hj ⟨v4, v5, v6, v7, v8, rfl, s3, h3, h4, r3⟩
      obtain ⟨r, hr, ⟨a, wv, rfl, ha, hw⟩⟩ := Paired.getL r3 hj
      have ht := cb24 (ts.take j) (by rw [List.length_take]; omega)
      have e1 : ts.take (j + 1) = ts.take j ++ [r] := by rw [List.take_add_one, hr]; rfl
      rw [e1, come_snoc]
      generalize comeR (ts.take j) n = done at h3 ht
      have lb := back_len r.w n
      walk_at "ss"
      rename_i tp htp
      have nlt : l ≠ tp := ne_of_none h3 htp
      have nqt : q2 ≠ tp := ne_of_none h4 htp
      refine for_tup (K := K) (a := tp) (xs := [.int r.f, .int (r.l + 1)]) (fun k σ H' => ∃ v8, σ = [some (.ref p), some (.int (n : Nat)), some (.ref l), some x, some (.str r.w.word), some (.int r.f), some (.int r.l), some wv, v8, none, none] ∧ Same H H' ∧ H' l = some (.lst ((0 :: (pre ++ (done ++ ([r.f, r.l + 1].take k).flatMap fun x => (backR r.w n).map fun b => x - b))).map V.int)) ∧ H' q2 = some (.lst ys) ∧ Rus H' ys ts ∧ H' tp = some (.tup [.int r.f, .int (r.l + 1)])) ⟨_, rfl, sm_new htp s3, by simpa using at_new htp h3, at_new htp h4, ru_new htp r3, upd_same⟩ (fun i σ H' _ h => by obtain ⟨_, _, _, _, _, _, h⟩ := h; exact SqT.of h) ?_ ?_
      · clear s3 h3 h4 r3
        rintro k xv σ H4 hk ⟨v8, rfl, s4, h5, h6, r4, ht4⟩
        obtain ⟨d, rfl, hd, lk⟩ : ∃ d, xv = .int d ∧ [r.f, r.l + 1][k]? = some d ∧ (([r.f, r.l + 1].take k).flatMap fun x => (backR r.w n).map fun b => x - b).length ≤ 15 := by
          match k, hk with
          | 0, hk => cases hk; exact ⟨_, rfl, rfl, by simp⟩
          | 1, hk => cases hk; exact ⟨_, rfl, rfl, by simp; omega⟩
        have ek : ([r.f, r.l + 1].take (k + 1)).flatMap (fun x => (backR r.w n).map fun b => x - b) = ([r.f, r.l + 1].take k).flatMap (fun x => (backR r.w n).map fun b => x - b) ++ (backR r.w n).map fun b => d - b := by
          rw [List.take_add_one, hd]
          simp
        rw [ek]
        generalize ([r.f, r.l + 1].take k).flatMap (fun x => (backR r.w n).map fun b => x - b) = half at h5 lk
        walk_at "ss"
        refine g_backs_of (by omega) fun pb H5 s5 fb hb => ?_
        walk_at "ss"
        refine lc_r (walk_list (K := K) (a := pb) (xs := (backR r.w n).map V.int)) (fun _ v (d : Int) => v = V.int d) (fun _ _ _ _ _ h => h) (fun i => ((backR r.w n)[i]?).bind fun b => some (d - b)) (by rw [List.length_map]; omega) (fun H' s => SqL.of (s _ _ hb)) ?_ ?_
        · rintro D i x0 H6 H7 N hD hi s6 ⟨rfl, hx⟩ hy hn2
          obtain ⟨bb, rfl, hbb⟩ := map_get hx
          rw [hbb, Option.bind_some] at hy
          walk_at "ss"
          exact hy _ _ _ rfl (Same.refl _) rfl
        intro D H6 zs hD s6 h7 r7
        rw [List.length_map, range_flt (backR r.w n) (fun b => some (d - b)), fm_map] at r7
        have ez := paired_int r7
        subst ez
        have s56 := s5.trans s6
        have h56 := s56 _ _ h5
        have nlD : l ≠ D := ne_of_none (s5 _ _ h5) hD
        walk_at "ss"
        refine ⟨_, rfl, sm_own hl (s4.trans s56), ?_, at_ne nlq.symm (s56 _ _ h6), ru_put h56 (ru_same s56 r4), at_ne nlt.symm (s56 _ _ ht4)⟩
        rw [upd_same]
        simp
      · rintro σ H4 ⟨v8, rfl, s4, h5, h6, r4, ht4⟩
        walk_at "ss"
        exact ⟨_, _, _, _, _, rfl, s4, by simpa using h5, h6, r4⟩
    · rintro σ H3 ⟨v4, v5, v6, v7, v8, rfl, s3, h3, h4, r3⟩
      walk_at "ss"
      refine ⟨_, _, _, _, _, _, rfl, s3, ?_⟩
      rw [List.take_of_length_le (show ts.length ≤ ys.length by omega)] at h3
      rw [h3, List.take_add_one, hts, List.flatMap_append, hpre]
      simp
  · rintro σ H1 ⟨v3, v4, v5, v6, v7, v8, rfl, s1, h1⟩
    have e2 : ([rs, ss].take [v, u].length).flatMap (fun ts => comeR ts n) = comeR rs n ++ comeR ss n := by simp
    rw [e2] at h1
    have k1 := cb24 rs l1
    have k2 := cb24 ss l2
    walk_at "ss"
    refine g_sortSet rfl (SqL.of h1) ?_ fun out p2 hp2 up lo mem => ?_
    · simp
      omega
    walk_at "ss"
    refine lc_r (walk_list (K := K) (a := p2) (xs := out.map V.int)) (fun _ v (d : Int) => v = V.int d) (fun _ _ _ _ _ h => h) (fun i => (out[i]?).bind fun d => if 0 ≤ d ∧ d ≤ 1000000 - n then some d else none) (by rw [List.length_map]; simp at lo; omega) (fun H' s => SqL.of (s _ _ upd_same)) ?_ ?_
    · rintro D j x0 H4 H5 N hD hj s4 ⟨rfl, hx⟩ hy hn2
      obtain ⟨d, rfl, hd⟩ := map_get hx
      rw [hd, Option.bind_some] at hy hn2
      walk_at "ss"
      refine ite_d (fun z0 => ?_) fun z0 => ?_
      · walk_at "ss"
        refine ite_d (fun z => ?_) fun z => ?_
        · walk_at "ss"
          exact hy _ _ _ (if_pos ⟨z0, z⟩) (Same.refl _) rfl
        · exact hn2 _ (if_neg fun y => z y.2) (Same.refl _)
      · refine ⟨_, rfl, ?_⟩
        exact hn2 _ (if_neg fun y => z0 y.1) (Same.refl _)
    intro D H4 zs hD s4 h4 r4
    rw [List.length_map, range_flt out (fun d => if 0 ≤ d ∧ d ≤ 1000000 - n then some d else none), flt_rng] at r4
    have ez := paired_int r4
    subst ez
    walk_at "ss"
    refine q _ D H4 ((sm_new hp2 s1).trans s4) (fr_of (fr_new hD) s1) h4 ?_
    refine ⟨(up.imp fun h => Int.le_of_lt h).filter _, List.mem_filter.mpr ⟨(mem 0).mpr (by simp), by simp; omega⟩, fun c hc => ?_, fun c hc h0 h1 => ?_⟩
    · have := (List.mem_filter.mp hc).2
      simpa using this
    · exact List.mem_filter.mpr ⟨(mem c).mpr (List.mem_cons_of_mem _ hc), by simp [h0, h1]⟩
def tl_apart (K : PySem.W.Frag) : TS :=
  (tSeq (tFor (iRng2 (tCons (tC (.int 1)) (tCons (tOp rAdd (tC (.int 14)) (tC (.int 1))) tNil))) (gName 3)
  (tFor (iList K (tCall (sp_comes_of K) [] E0 (tCons (tLst (tCons (tVar 0) (tCons (tVar 1) tNil))) (tCons (tVar 3) tNil)))) (gName 4)
  (tSeq (tAsg (tTup (tCons (tVar 4) (tCons (tOp rAdd (tVar 4) (tVar 3)) tNil))) (gName 5))
  (tSeq (tAsg (tCall (sp_coins_of K) [] E0 (tCons (tVar 0) (tCons (tVar 5) tNil))) (gName 6))
  (tSeq (tAsg (tCall (sp_coins_of K) [] E0 (tCons (tVar 1) (tCons (tVar 5) tNil))) (gName 7))
  (tIfS (tTest (tOp (rNeD K) (tVar 6) (tVar 7)))
  (tRet (tTup (tCons (tVar 5) (tCons (tVar 6) (tCons (tVar 7) tNil)))))
  tNext))))))
  (tRet (tC .non)))
/-- the tail of apart, behind its refusals -/
theorem ap_tail {K : PySem.W.Frag} {x y : V} {v2 : Option V} {rs ss : List RuleD} {H H1 : Hp} {Q : VK} (cf : CFR K) (cb : CFB K) (b1 : BkAt K H x rs) (b2 : BkAt K H y ss) (g1 : ∀ r ∈ rs, RuleD.good r) (g2 : ∀ r ∈ ss, RuleD.good r) (l1 : rs.length ≤ 12) (l2 : ss.length ≤ 12) (q : QAp rs ss H Q) (s1 : Same H H1) : tl_apart K { nx := fun _ H' => Q .non H', rt := Q } [some x, some y, v2, none, none, none, none, none] H1 := by
  unfold tl_apart
  obtain ⟨q1, q2⟩ := q
  walk_at "ss"
  refine for_range (lo := 1) (n := 14) (fun i σ H' => ∃ v3 v4 v5 v6 v7, σ = [some x, some y, v2, v3, v4, v5, v6, v7] ∧ Same H H' ∧ ∀ n ∈ ((List.range 14).map (· + 1)).take i, (leastO (1000001 - n) (unlikeB rs ss n)).map (fun c => (n, c)) = none) ⟨_, _, _, _, _, rfl, s1, by simp⟩ ?_ ?_
  · clear s1
    rintro i σ H2 hi ⟨v3, v4, v5, v6, v7, rfl, s2, no⟩
    have hni : ((List.range 14).map (· + 1))[i]? = some (i + 1) := by rw [List.getElem?_map, List.getElem?_range hi]; rfl
    walk_at "ss"
    rename_i p hp
    have en : (1 : Int) + (i : Int) = ((i + 1 : Nat) : Int) := by omega
    rw [en]
    refine g_comes_of cf cb (SqL.of upd_same) ((b1.same s2).same (same_new hp)) ((b2.same s2).same (same_new hp)) (by omega) (by omega) (by omega) fun L l H3 s3 fl hL ok => ?_
    have s23 := (same_new hp).trans s3
    walk_at "ss"
    refine for_list (K := K) (a := l) (xs := L.map V.int) (fun j σ H' => ∃ v4 v5 v6 v7, σ = [some x, some y, v2, some (.int ((i + 1 : Nat) : Int)), v4, v5, v6, v7] ∧ Same H H' ∧ H' l = some (.lst (L.map V.int)) ∧ ∀ c ∈ L.take j, unlikeB rs ss (i + 1) c = false) ⟨_, _, _, _, rfl, s2.trans s23, hL, by simp⟩ (fun i σ H' _ h => by obtain ⟨_, _, _, _, _, _, h, _⟩ := h; exact SqL.of h) ?_ ?_
    · clear s2 s3 s23 hL hp fl
      rintro j cv σ H4 hj ⟨v4, v5, v6, v7, rfl, s4, h4, nd⟩
      obtain ⟨c, rfl, hc⟩ := map_get hj
      have hr := ok.rng c (List.mem_of_getElem? hc)
      walk_at "ss"
      rename_i st hst
      obtain ⟨F1, k1⟩ := (b1.same s4).same (same_new (o := .tup [.int c, .int (c + ((i + 1 : Nat) : Int))]) hst)
      obtain ⟨F2, k2⟩ := (b2.same s4).same (same_new (o := .tup [.int c, .int (c + ((i + 1 : Nat) : Int))]) hst)
      refine g_coins (F := F1) cf cb k1 g1 (SqT.of upd_same) ⟨by omega, by omega, by omega, by omega⟩ fun H5 s5 => ?_
      have s45 := (same_new (o := .tup [.int c, .int (c + ((i + 1 : Nat) : Int))]) hst).trans s5
      have st5 := s5 st _ upd_same
      walk_at "ss"
      refine g_coins (F := F2) cf cb (bk_same s5 k2) g2 (SqT.of st5) ⟨by omega, by omega, by omega, by omega⟩ fun H6 s6 => ?_
      have st6 := s6 _ _ st5
      have s46 := s45.trans s6
      have ec : ∀ ts : List RuleD, (if hadB ts c (c + ((i + 1 : Nat) : Int)) = true then V.int (sumD ts c (c + ((i + 1 : Nat) : Int))) else V.non) = coV (coinO ts c (c + ((i + 1 : Nat) : Int))) := fun ts => by
        unfold coinO
        cases hadB ts c (c + ((i + 1 : Nat) : Int)) <;> rfl
      rw [ec rs, ec ss]
      walk_at "ss"
      refine g_neD_co ?_
      refine ⟨_, rfl, ?_⟩
      refine ite_b (fun z => ?_) fun z => ?_
      · walk_at "ss"
        rename_i p9 hp9
        have e : apO rs ss = some (i + 1, c) := by
          unfold apO
          refine find_first hni no ?_
          rw [← ok.find (by omega), find_getI hc nd z]
          rfl
        exact q2 (i + 1) c e p9 st _ (sm_new hp9 (s4.trans s46)) (fr_of hp9 (s4.trans s46)) (fr_of hst s4) upd_same (at_new hp9 st6)
      · walk_at "ss"
        refine ⟨_, _, _, _, rfl, s4.trans s46, s46 _ _ h4, fun c' hc' => ?_⟩
        rw [List.take_add_one, hc] at hc'
        rcases List.mem_append.mp hc' with h | h
        · exact nd c' h
        · obtain rfl := List.mem_singleton.mp h
          exact z
    · rintro σ H4 ⟨v4, v5, v6, v7, rfl, s4, h4, nd⟩
      walk_at "ss"
      refine ⟨_, _, _, _, _, rfl, s4, fun n' hn' => ?_⟩
      rw [List.take_add_one, hni] at hn'
      rcases List.mem_append.mp hn' with h | h
      · exact no n' h
      · obtain rfl := List.mem_singleton.mp h
        rw [List.length_map, List.take_length] at nd
        rw [← ok.find (by omega), List.find?_eq_none.mpr fun d hd => by rw [nd d hd]; decide]
        rfl
  · rintro σ H2 ⟨v3, v4, v5, v6, v7, rfl, s2, no⟩
    walk_at "ss"
    exact q1 (List.findSome?_eq_none_iff.mpr fun n hn => no n (by rw [List.take_of_length_le (by simp)]; exact hn)) _ s2
/-! YAn: apart of books of at most twelve rules, where nothing is refused (second family). -/
open PySem PySem.Spec PyProof.Rows L2
def t_apart (K : PySem.W.Frag) : TS :=
  (tSeq (tFor (iTup K (tTup (tCons (tVar 0) (tCons (tVar 1) tNil)))) (gName 2)
  (tIfS (tTest (tOp rGt (tCB (rLen K) (tCons (tMeth (He.ga K "Book") "rules" (sp_Book_rules K) [] E0 (tVar 2) tNil) tNil)) (tC (.int 12))))
  tNever
  tNext))
  (tSeq (tFor (iRng2 (tCons (tC (.int 1)) (tCons (tOp rAdd (tC (.int 14)) (tC (.int 1))) tNil))) (gName 3)
  (tFor (iList K (tCall (sp_comes_of K) [] E0 (tCons (tLst (tCons (tVar 0) (tCons (tVar 1) tNil))) (tCons (tVar 3) tNil)))) (gName 4)
  (tSeq (tAsg (tTup (tCons (tVar 4) (tCons (tOp rAdd (tVar 4) (tVar 3)) tNil))) (gName 5))
  (tSeq (tAsg (tCall (sp_coins_of K) [] E0 (tCons (tVar 0) (tCons (tVar 5) tNil))) (gName 6))
  (tSeq (tAsg (tCall (sp_coins_of K) [] E0 (tCons (tVar 1) (tCons (tVar 5) tNil))) (gName 7))
  (tIfS (tTest (tOp (rNeD K) (tVar 6) (tVar 7)))
  (tRet (tTup (tCons (tVar 5) (tCons (tVar 6) (tCons (tVar 7) tNil)))))
  tNext))))))
  (tRet (tC .non))))
theorem pure_apart {K : PySem.W.Frag} {x y : V} {H : Hp} {Q : VK} {E : XK} (h : sp_apart K [x, y] H Q E) : t_apart K { nx := fun _ H' => Q .non H', rt := Q } [some x, some y, none, none, none, none, none, none] H := by
  obtain ⟨x, y, e, cf, cb, rs, ss, b1, b2, g1, g2, l1, l2, q⟩ := h
  cases e
  unfold t_apart
  walk_at "ss"
  rename_i tp htp
  refine for_tup (K := K) (a := tp) (xs := [x, y]) (fun i σ H' => ∃ v2, σ = [some x, some y, v2, none, none, none, none, none] ∧ Same H H' ∧ H' tp = some (.tup [x, y])) ⟨_, rfl, same_new htp, upd_same⟩ (fun i σ H' _ h => by obtain ⟨_, _, _, h⟩ := h; exact SqT.of h) ?_ ?_
  · rintro i z σ H1 hi ⟨v2, rfl, s1, h1⟩
    obtain ⟨ts, hx, lt⟩ : ∃ ts, BkAt K H z ts ∧ ts.length ≤ 12 := by
      match i, hi with
      | 0, hi => cases hi; exact ⟨rs, b1, l1⟩
      | 1, hi => cases hi; exact ⟨ss, b2, l2⟩
    obtain ⟨F, bk⟩ := hx.same s1
    walk_at "ss"
    rename_i q5 H2 ys s2 f2 h2 r2
    have yl := ru_len r2
    refine ite_d (fun z => ?_) fun z => ?_
    · omega
    · walk_at "ss"
      exact ⟨_, rfl, s1.trans s2, s2 _ _ h1⟩
  · rintro σ H1 ⟨v2, rfl, s1, h1⟩
    exact ap_tail cf cb b1 b2 g1 g2 l1 l2 q s1
/-! Y9 (second family): drawn rules, days, stays. -/
open PySem PySem.Spec PyProof.Rows L2
def sp_Lcoins (K : PySem.W.Frag) : Sp := Sp1 fun x H Q E => ∃ (t b s : Addr), x = .ref t ∧ Tape H t b s ∧ ∀ (i : Int) (H' : Hp), Tape H' t b s → Kp [t, b] H H' → 0 ≤ i → i ≤ 1000000000000 → Q (.int i) H'
theorem g_Lcoins {K : PySem.W.Frag} {t b s : Addr} {H : Hp} {Q : VK} {E : XK} (T : Tape H t b s) (q : ∀ (i : Int) (H' : Hp), Tape H' t b s → Kp [t, b] H H' → 0 ≤ i → i ≤ 1000000000000 → Q (.int i) H') : sp_Lcoins K ([.ref t] ++ []) H Q E := ⟨_, rfl, t, b, s, rfl, T, q⟩
def sp_Lworth (K : PySem.W.Frag) : Sp := Sp2 fun x y H Q E => ∃ (t b s : Addr) (w : Wd), x = .ref t ∧ y = .str w.word ∧ Tape H t b s ∧ ∀ (v : V) (d : PyData) (H' : Hp), Tape H' t b s → Kp [t, b] H H' → Td H' v d → fitsD w d = true → Q v H'
theorem g_Lworth {K : PySem.W.Frag} {t b s : Addr} {w : Wd} {H : Hp} {Q : VK} {E : XK} (T : Tape H t b s) (q : ∀ (v : V) (d : PyData) (H' : Hp), Tape H' t b s → Kp [t, b] H H' → Td H' v d → fitsD w d = true → Q v H') : sp_Lworth K ([.ref t, .str w.word] ++ []) H Q E := ⟨_, _, rfl, t, b, s, w, rfl, rfl, T, q⟩
def sp_Lrule (K : PySem.W.Frag) : Sp := Sp2 fun x y H Q E => ∃ (t b s : Addr) (m : Int), x = .ref t ∧ y = .int m ∧ Tape H t b s ∧ 0 ≤ m ∧ m ≤ 1000000 ∧ ∀ (v : V) (r : RuleD) (H' : Hp), Tape H' t b s → Kp [t, b] H H' → RuT H' v r → r.good → Q v H'
theorem g_Lrule {K : PySem.W.Frag} {t b s : Addr} {m : Int} {H : Hp} {Q : VK} {E : XK} (T : Tape H t b s) (h0 : 0 ≤ m) (h1 : m ≤ 1000000) (q : ∀ (v : V) (r : RuleD) (H' : Hp), Tape H' t b s → Kp [t, b] H H' → RuT H' v r → r.good → Q v H') : sp_Lrule K ([.ref t, .int m] ++ []) H Q E := ⟨_, _, rfl, t, b, s, m, rfl, rfl, T, h0, h1, q⟩
def sp_Lday (K : PySem.W.Frag) : Sp := Sp1 fun x H Q E => ∃ (t b s : Addr), x = .ref t ∧ Tape H t b s ∧ ∀ (i : Int) (H' : Hp), Tape H' t b s → Kp [t, b] H H' → 0 ≤ i → i ≤ 999989 → Q (.int i) H'
theorem g_Lday {K : PySem.W.Frag} {t b s : Addr} {H : Hp} {Q : VK} {E : XK} (T : Tape H t b s) (q : ∀ (i : Int) (H' : Hp), Tape H' t b s → Kp [t, b] H H' → 0 ≤ i → i ≤ 999989 → Q (.int i) H') : sp_Lday K ([.ref t] ++ []) H Q E := ⟨_, rfl, t, b, s, rfl, T, q⟩
theorem coins_ok {i : Int} (h0 : 0 ≤ i) (h1 : i ≤ 1000000000000) : isCoins (.int i) = true := by
  show (decide (0 ≤ i) && decide (i ≤ 1000000000000)) = true
  simp [h0, h1]
theorem nights_ok {i : Int} (h0 : 1 ≤ i) (h1 : i ≤ 14) : isNights (.int i) = true := by
  show (decide (1 ≤ i) && decide (i ≤ 14)) = true
  simp [h0, h1]
theorem deal_ok {m f : Int} (h0 : 1 ≤ m) (h1 : m ≤ 14) (h2 : 1 ≤ f) (h3 : f < m) : isDeal (.tuple [.int m, .int f]) = true := by
  show (isNights (.int m) && (decide (1 ≤ f) && decide (f < m))) = true
  rw [nights_ok h0 h1]
  simp [h2, h3]
theorem word9 {v : V} (h : v ∈ [V.str "price", .str "price", .str "price", .str "come", .str "go", .str "least", .str "most", .str "deal", .str "fee"]) : ∃ w : Wd, v = .str w.word := by
  simp only [List.mem_cons, List.not_mem_nil, or_false] at h
  rcases h with rfl | rfl | rfl | rfl | rfl | rfl | rfl | rfl | rfl
  · exact ⟨.price, rfl⟩
  · exact ⟨.price, rfl⟩
  · exact ⟨.price, rfl⟩
  · exact ⟨.come, rfl⟩
  · exact ⟨.go, rfl⟩
  · exact ⟨.least, rfl⟩
  · exact ⟨.most, rfl⟩
  · exact ⟨.deal, rfl⟩
  · exact ⟨.fee, rfl⟩
theorem g_inT {K : PySem.W.Frag} {H : Hp} {Q : VK} {p : Addr} {xs : List V} {x : V} {b : Bool} (h : H p = some (.tup xs)) (fx : flatV x = true) (fs : xs.all flatV = true) (e : inV x xs = b) (q : Q (.bl b) H) : rIn K false x (.ref p) H Q :=
  ⟨p, xs, rfl, .inr (SqT.of h), fx, fs, by rw [e, if_neg (by decide)]; exact q⟩
def t_Lcoins (K : PySem.W.Frag) : TS :=
  (tSeq (tAsg (tCall (sp_Ltake K) [] E0 (tCons (tVar 0) (tCons (tC (.int 10)) tNil))) (gName 1))
  (tSeq (tAsg (tOp rMul (tC (.int 10)) (tCall (sp_Ltake K) [] E0 (tCons (tVar 0) (tCons (tC (.int 10)) tNil)))) (gName 2))
  (tSeq (tAsg (tOp rAdd (tOp rMul (tCall (sp_Ltake K) [] E0 (tCons (tVar 0) (tCons (tOp rPow (tC (.int 10)) (tC (.int 6))) tNil))) (tOp rPow (tC (.int 10)) (tC (.int 6)))) (tCall (sp_Ltake K) [] E0 (tCons (tVar 0) (tCons (tOp rPow (tC (.int 10)) (tC (.int 6))) tNil)))) (gName 3))
  (tRet (tOp (rIxL K) (tLst (tCons (tVar 1) (tCons (tVar 2) (tCons (tOp rAdd (tVar 1) (tOp rMul (tC (.int 10)) (tVar 2))) (tCons (tVar 3) (tCons (tOp rPow (tC (.int 10)) (tC (.int 12))) tNil)))))) (tOp rDivW (tCall (sp_Ltake K) [] E0 (tCons (tVar 0) (tCons (tC (.int 9)) tNil))) (tC (.int 2))))))))
theorem pure_Lcoins {K : PySem.W.Frag} {x : V} {H : Hp} {Q : VK} {E : XK} (h : sp_Lcoins K [x] H Q E) : t_Lcoins K { nx := fun _ H' => Q .non H', rt := Q } [some x, none, none, none] H := by
  obtain ⟨x, e, t, b, s, rfl, T, q⟩ := h
  cases e
  unfold t_Lcoins
  walk_at "ss"
  rename_i a1 H1 a10 a11 T1 k1 a2 H2 a20 a21 T2 k2 a3 H3 a30 a31 T3 k3 a4 H4 a40 a41 T4 k4 p hp a5 H5 a50 a51 T5 k5 v hv
  refine q _ _ T5 (by walk_at "kp") (by omega) (by omega)
def t_Lday (K : PySem.W.Frag) : TS :=
  (tRet (tOp (rIxL K) (tLst (tCons (tC (.int 0)) (tCons (tCall (sp_Ltake K) [] E0 (tCons (tVar 0) (tCons (tC (.int 5)) tNil))) (tCons (tC (.int 40)) (tCons (tOp rAdd (tC (.int 999980)) (tCall (sp_Ltake K) [] E0 (tCons (tVar 0) (tCons (tC (.int 10)) tNil)))) (tCons (tCall (sp_Ltake K) [] E0 (tCons (tVar 0) (tCons (tC (.int 999980)) tNil))) tNil)))))) (tCall (sp_Ltake K) [] E0 (tCons (tVar 0) (tCons (tC (.int 5)) tNil)))))
theorem pure_Lday {K : PySem.W.Frag} {x : V} {H : Hp} {Q : VK} {E : XK} (h : sp_Lday K [x] H Q E) : t_Lday K { nx := fun _ H' => Q .non H', rt := Q } [some x] H := by
  obtain ⟨x, e, t, b, s, rfl, T, q⟩ := h
  cases e
  unfold t_Lday
  walk_at "ss"
  rename_i a1 H1 a10 a11 T1 k1 a2 H2 a20 a21 T2 k2 a3 H3 a30 a31 T3 k3 p hp a4 H4 a40 a41 T4 k4 v hv
  refine q _ _ T4 (by walk_at "kp") (by omega) (by omega)
def t_Lworth (K : PySem.W.Frag) : TS :=
  (tSeq (tIfS (tTest (tOp (rIn K false) (tVar 1) (tTup (tCons (tC (.str "come")) (tCons (tC (.str "go")) tNil)))))
  (tRet (tOp rEq (tCall (sp_Ltake K) [] E0 (tCons (tVar 0) (tCons (tC (.int 3)) tNil))) (tC (.int 0))))
  tNext)
  (tSeq (tIfS (tTest (tOp (rIn K false) (tVar 1) (tTup (tCons (tC (.str "least")) (tCons (tC (.str "most")) tNil)))))
  (tRet (tOp rAdd (tC (.int 1)) (tCall (sp_Ltake K) [] E0 (tCons (tVar 0) (tCons (tOp (rIxL K) (tLst (tCons (tC (.int 4)) (tCons (tC (.int 14)) tNil))) (tCall (sp_Ltake K) [] E0 (tCons (tVar 0) (tCons (tC (.int 2)) tNil)))) tNil)))))
  tNext)
  (tSeq (tIfS (tTest (tOp rEq (tVar 1) (tC (.str "deal"))))
  (tSeq (tAsg (tOp rAdd (tC (.int 2)) (tCall (sp_Ltake K) [] E0 (tCons (tVar 0) (tCons (tOp (rIxL K) (tLst (tCons (tC (.int 3)) (tCons (tC (.int 13)) tNil))) (tCall (sp_Ltake K) [] E0 (tCons (tVar 0) (tCons (tC (.int 2)) tNil)))) tNil)))) (gName 2))
  (tSeq (tAsg (tOp rAdd (tC (.int 1)) (tCall (sp_Ltake K) [] E0 (tCons (tVar 0) (tCons (tOp rSub (tVar 2) (tC (.int 1))) tNil)))) (gName 3))
  (tRet (tOp (rIxL K) (tLst (tCons (tTup (tCons (tVar 2) (tCons (tVar 3) tNil))) (tCons (tTup (tCons (tVar 2) (tCons (tVar 3) tNil))) (tCons (tC .non) tNil)))) (tCall (sp_Ltake K) [] E0 (tCons (tVar 0) (tCons (tC (.int 3)) tNil)))))))
  tNext)
  (tSeq (tAsg (tCall (sp_Lcoins K) [] E0 (tCons (tVar 0) tNil)) (gName 4))
  (tSeq (tIfS (tAnd (tTest (tOp rEq (tVar 1) (tC (.str "price")))) (tTest (tOp rEq (tCall (sp_Ltake K) [] E0 (tCons (tVar 0) (tCons (tC (.int 5)) tNil))) (tC (.int 0)))))
  (tRet (tC .non))
  tNext)
  (tRet (tVar 4)))))))
theorem pure_Lworth {K : PySem.W.Frag} {x y : V} {H : Hp} {Q : VK} {E : XK} (h : sp_Lworth K [x, y] H Q E) : t_Lworth K { nx := fun _ H' => Q .non H', rt := Q } [some x, some y, none, none, none] H := by
  obtain ⟨x, y, e, t, b, s, w, rfl, rfl, T, q⟩ := h
  cases e
  unfold t_Lworth
  have cg : w = .come ∨ w = .go ∨ w = .least ∨ w = .most ∨ w = .deal ∨ w = .price ∨ w = .fee := by cases w <;> simp
  walk_at "ss"
  rcases cg with rfl | rfl | rfl | rfl | rfl | rfl | rfl
  · refine g_inT upd_same rfl rfl (b := true) (by decide) ?_
    walk_at "ss"
    exact q _ (.bool _) _ (by walk_at "tp") (by walk_at "kp") (.bl _) rfl
  · refine g_inT upd_same rfl rfl (b := true) (by decide) ?_
    walk_at "ss"
    exact q _ (.bool _) _ (by walk_at "tp") (by walk_at "kp") (.bl _) rfl
  · refine g_inT upd_same rfl rfl (b := false) (by decide) ?_
    walk_at "ss"
    refine g_inT upd_same rfl rfl (b := true) (by decide) ?_
    walk_at "ss"
    exact q _ (.int _) _ (by walk_at "tp") (by walk_at "kp") (.int _) (nights_ok (by omega) (by omega))
  · refine g_inT upd_same rfl rfl (b := false) (by decide) ?_
    walk_at "ss"
    refine g_inT upd_same rfl rfl (b := true) (by decide) ?_
    walk_at "ss"
    exact q _ (.int _) _ (by walk_at "tp") (by walk_at "kp") (.int _) (nights_ok (by omega) (by omega))
  · refine g_inT upd_same rfl rfl (b := false) (by decide) ?_
    walk_at "ss"
    refine g_inT upd_same rfl rfl (b := false) (by decide) ?_
    walk_at "ss"
    with_reducible refine g_seq ?_
    walk_at "ss"
    refine ite_dt rfl ?_
    with_reducible refine g_seqA ?_
    walk_at "ss"
    rename_i q0 hq0 q1 hq1 q2 hq2 d1 H1 d10 d11 T1 k1 v1 hv1 d2 H2 d20 d21 T2 k2 d3 H3 d30 d31 T3 k3 p1 hp1 p2 hp2 p3 hp3 d4 H4 d40 d41 T4 k4 v hv
    have a1 : H4 p1 = some (.tup [.int (2 + d2), .int (1 + d3)]) := at_tk k4 (by walk_at "tp") (by walk_at "at")
    have a2 : H4 p2 = some (.tup [.int (2 + d2), .int (1 + d3)]) := at_tk k4 (by walk_at "tp") (by walk_at "at")
    rcases List.mem_cons.mp hv with rfl | hv
    · exact q _ (.tuple [.int (2 + d2), .int (1 + d3)]) _ T4 (by walk_at "kp") (td_tup a1 (.cons (.int _) (.cons (.int _) .nil))) (deal_ok (by omega) (by omega) (by omega) (by omega))
    rcases List.mem_cons.mp hv with rfl | hv
    · exact q _ (.tuple [.int (2 + d2), .int (1 + d3)]) _ T4 (by walk_at "kp") (td_tup a2 (.cons (.int _) (.cons (.int _) .nil))) (deal_ok (by omega) (by omega) (by omega) (by omega))
    rcases List.mem_cons.mp hv with rfl | hv
    · exact q _ .none _ T4 (by walk_at "kp") .non rfl
    · cases hv
  · refine g_inT upd_same rfl rfl (b := false) (by decide) ?_
    walk_at "ss"
    refine g_inT upd_same rfl rfl (b := false) (by decide) ?_
    walk_at "ss"
    with_reducible refine g_seq ?_
    walk_at "ss"
    refine ite_df (by decide) ?_
    walk_at "ss"
    refine ite_dt rfl ?_
    walk_at "ss"
    refine ite_b (fun z => ?_) fun z => ?_
    · walk_at "ss"
      exact q _ .none _ (by walk_at "tp") (by walk_at "kp") .non rfl
    · walk_at "ss"
      rename_i c H1 T1 k1 c0 c1 d H2 d0 d1 T2 k2
      exact q _ (.int _) _ (by walk_at "tp") (by walk_at "kp") (.int _) (by show (isNone (.int c) || isCoins (.int c)) = true; rw [coins_ok c0 c1]; rfl)
  · refine g_inT upd_same rfl rfl (b := false) (by decide) ?_
    walk_at "ss"
    refine g_inT upd_same rfl rfl (b := false) (by decide) ?_
    walk_at "ss"
    with_reducible refine g_seq ?_
    walk_at "ss"
    refine ite_df (by decide) ?_
    walk_at "ss"
    refine ite_df (by decide) ?_
    walk_at "ss"
    rename_i c H1 T1 k1 c0 c1
    exact q _ (.int _) _ (by walk_at "tp") (by walk_at "kp") (.int _) (coins_ok c0 c1)
def t_Lrule (K : PySem.W.Frag) : TS :=
  (tSeq (tAsg (tOp (rIxL K) (tLst (tCons (tC (.str "price")) (tCons (tC (.str "price")) (tCons (tC (.str "price")) (tCons (tC (.str "come")) (tCons (tC (.str "go")) (tCons (tC (.str "least")) (tCons (tC (.str "most")) (tCons (tC (.str "deal")) (tCons (tC (.str "fee")) tNil)))))))))) (tCall (sp_Ltake K) [] E0 (tCons (tVar 0) (tCons (tC (.int 9)) tNil)))) (gName 2))
  (tSeq (tAsg (tOp (rIxL K) (tLst (tCons (tOp rSub (tCall (sp_Ltake K) [] E0 (tCons (tVar 0) (tCons (tC (.int 12)) tNil))) (tC (.int 3))) (tCons (tCall (sp_Ltake K) [] E0 (tCons (tVar 0) (tCons (tC (.int 6)) tNil))) (tCons (tUn rNeg (tVar 1)) (tCons (tC (.int 0)) tNil))))) (tCall (sp_Ltake K) [] E0 (tCons (tVar 0) (tCons (tC (.int 4)) tNil)))) (gName 3))
  (tSeq (tAsg (tCB rMin2 (tCons (tOp rPow (tC (.int 10)) (tC (.int 6))) (tCons (tCB rMax2 (tCons (tC (.int 0)) (tCons (tOp rAdd (tVar 1) (tVar 3)) tNil))) tNil))) (gName 4))
  (tSeq (tAsg (tOp rAdd (tVar 4) (tOp (rIxL K) (tLst (tCons (tC (.int 0)) (tCons (tCall (sp_Ltake K) [] E0 (tCons (tVar 0) (tCons (tC (.int 3)) tNil))) (tCons (tCall (sp_Ltake K) [] E0 (tCons (tVar 0) (tCons (tC (.int 14)) tNil))) (tCons (tC (.int 60)) (tCons (tOp rPow (tC (.int 10)) (tC (.int 6))) tNil)))))) (tCall (sp_Ltake K) [] E0 (tCons (tVar 0) (tCons (tC (.int 5)) tNil))))) (gName 5))
  (tRet (tTup (tCons (tVar 2) (tCons (tVar 4) (tCons (tCB rMin2 (tCons (tOp rPow (tC (.int 10)) (tC (.int 6))) (tCons (tVar 5) tNil))) (tCons (tCall (sp_Lworth K) [] E0 (tCons (tVar 0) (tCons (tVar 2) tNil))) tNil))))))))))
theorem pure_Lrule {K : PySem.W.Frag} {x y : V} {H : Hp} {Q : VK} {E : XK} (h : sp_Lrule K [x, y] H Q E) : t_Lrule K { nx := fun _ H' => Q .non H', rt := Q } [some x, some y, none, none, none, none] H := by
  obtain ⟨x, y, e, t, b, s, m, rfl, rfl, T, h0, h1, q⟩ := h
  cases e
  unfold t_Lrule
  walk_at "ss"
  rename_i p1 hp1 a1 H1 a10 a11 T1 k1 wv hwv a2 H2 a20 a21 T2 k2 a3 H3 a30 a31 T3 k3 p2 hp2 a4 H4 a40 a41 T4 k4 v2 hv2 a5 H5 a50 a51 T5 k5 a6 H6 a60 a61 T6 k6 p3 hp3 a7 H7 a70 a71 T7 k7 v3 hv3
  obtain ⟨w, rfl⟩ := word9 hwv
  refine g_Lworth T7 fun v d H8 T8 k8 hv hf => ?_
  walk_at "ss"
  rename_i p4 hp4
  rw [mni, mxi, mni]
  refine q _ ⟨w, min 1000000 (max 0 (m + v2)), min 1000000 (min 1000000 (max 0 (m + v2)) + v3), d⟩ _ (by walk_at "tp") (by walk_at "kp") ⟨p4, v, rfl, upd_same, td_new hp4 hv⟩ ⟨?_, ?_, ?_, hf⟩
  · show 0 ≤ min 1000000 (max 0 (m + v2)); omega
  · show min 1000000 (max 0 (m + v2)) ≤ min 1000000 (min 1000000 (max 0 (m + v2)) + v3); omega
  · show min 1000000 (min 1000000 (max 0 (m + v2)) + v3) ≤ 1000000; omega
/-! YB: what is a day, a stretch, coins, nights. -/
open PySem PySem.Spec PyProof.Rows L2
theorem ats2 {H : Hp} {L : List Addr} {xs : List V} {ds : List PyData} (r : Ats H L xs ds) (h : xs.length = 2) : ∃ x y a b, xs = [x, y] ∧ ds = [a, b] ∧ At H L x a ∧ At H L y b := by
  match xs, ds, r, h with
  | [x, y], [a, b], .cons h1 (.cons h2 .nil), _ => exact ⟨x, y, a, b, rfl, rfl, h1, h2⟩
def t_is_whole (K : PySem.W.Frag) : TS :=
  (tRet (tAndV (tCB (rIsi K) (tCons (tVar 0) (tCons (tC (.ty "int")) tNil))) (tNotV (tCB (rIsi K) (tCons (tVar 0) (tCons (tC (.ty "bool")) tNil))))))
theorem pure_is_whole {K : PySem.W.Frag} {x : V} {H : Hp} {Q : VK} {E : XK} (h : sp_is_whole K [x] H Q E) : t_is_whole K { nx := fun _ H' => Q .non H', rt := Q } [some x] H := by
  obtain ⟨x, e, d, h, q⟩ := h
  cases e
  unfold t_is_whole
  cases h <;> (walk_at "ss"; exact q)
def t_is_day (K : PySem.W.Frag) : TS :=
  (tRet (tAndV (tCall (sp_is_whole K) [] E0 (tCons (tVar 0) tNil)) (tChain rLe rLe (tC (.int 0)) (tVar 0) (tC (.int 1000000)))))
theorem pure_is_day {K : PySem.W.Frag} {x : V} {H : Hp} {Q : VK} {E : XK} (h : sp_is_day K [x] H Q E) : t_is_day K { nx := fun _ H' => Q .non H', rt := Q } [some x] H := by
  obtain ⟨x, e, d, h, q⟩ := h
  cases e
  unfold t_is_day
  walk_at "ss"
  cases h with
  | int i =>
    refine ite_t rfl ?_
    walk_at "ss"
    refine ite_b (fun h1 => ?_) fun h1 => ?_
    · walk_at "ss"
      exact and_t h1 q
    · exact and_f h1 q
  | _ => exact q
def t_is_two_days (K : PySem.W.Frag) : TS :=
  (tRet (tAndV (tCB (rIsi K) (tCons (tVar 0) (tCons (tC (.ty "tuple")) tNil))) (tAndV (tOp rEq (tCB (rLen K) (tCons (tVar 0) tNil)) (tC (.int 2))) (tAndV (tCall (sp_is_day K) [] E0 (tCons (tOp (rIxT K) (tVar 0) (tC (.int 0))) tNil)) (tCall (sp_is_day K) [] E0 (tCons (tOp (rIxT K) (tVar 0) (tC (.int 1))) tNil))))))
theorem is2_no {ds : List PyData} (h : ds.length ≠ 2) : is2 (.tuple ds) = false := by
  match ds, h with
  | [], _ => rfl
  | [_], _ => rfl
  | [_, _], h => exact absurd rfl h
  | _ :: _ :: _ :: _, _ => rfl
theorem pure_is_two_days {K : PySem.W.Frag} {x : V} {H : Hp} {Q : VK} {E : XK} (h : sp_is_two_days K [x] H Q E) : t_is_two_days K { nx := fun _ H' => Q .non H', rt := Q } [some x] H := by
  obtain ⟨x, e, d, h, q⟩ := h
  cases e
  unfold t_is_two_days
  cases h with
  | tup n h r =>
    walk_at "ss"
    refine ite_b (fun h1 => ?_) fun h1 => ?_
    · rw [int_eq, decide_eq_true_eq] at h1
      obtain ⟨x, y, a, b, rfl, rfl, hx, hy⟩ := ats2 r (by omega)
      walk_at "ss"
      refine ite_b (fun h2 => ?_) fun h2 => ?_
      · walk_at "ss"
        exact and_t h2 q
      · exact and_f h2 q
    · rw [int_eq, decide_eq_false_iff_not] at h1
      rw [is2_no (fun z => h1 (by rw [Ats.len r, z]; rfl))] at q
      exact q
  | _ => walk_at "ss"; exact q
def t_is_stretch (K : PySem.W.Frag) : TS :=
  (tRet (tAndV (tCall (sp_is_two_days K) [] E0 (tCons (tVar 0) tNil)) (tOp rLe (tOp (rIxT K) (tVar 0) (tC (.int 0))) (tOp (rIxT K) (tVar 0) (tC (.int 1))))))
theorem isStr_no {d : PyData} (h : is2 d = false) : isStr d = false := by
  unfold isStr
  split
  · rename_i a b
    have h' : (isDay (.int a) && isDay (.int b)) = false := h
    cases e : isDay (.int a) with
    | false => rfl
    | true =>
      rw [e, Bool.true_and] at h'
      rw [h', Bool.false_and, Bool.and_false]
  · rfl
theorem isDay_int {d : PyData} (h : isDay d = true) : ∃ i, d = .int i := by
  cases d with
  | int i => exact ⟨i, rfl⟩
  | _ => cases h
theorem is2_ex {d : PyData} (h : is2 d = true) : ∃ a b, d = .tuple [.int a, .int b] ∧ isDay (.int a) = true ∧ isDay (.int b) = true := by
  unfold is2 at h
  split at h
  · obtain ⟨h1, h2⟩ := Bool.and_eq_true_iff.mp h
    obtain ⟨a, rfl⟩ := isDay_int h1
    obtain ⟨b, rfl⟩ := isDay_int h2
    exact ⟨a, b, rfl, h1, h2⟩
  · cases h
theorem pure_is_stretch {K : PySem.W.Frag} {x : V} {H : Hp} {Q : VK} {E : XK} (h : sp_is_stretch K [x] H Q E) : t_is_stretch K { nx := fun _ H' => Q .non H', rt := Q } [some x] H := by
  obtain ⟨x, e, d, h, q⟩ := h
  cases e
  unfold t_is_stretch
  walk_at "ss"
  refine ite_b (fun h1 => ?_) fun h1 => ?_
  · obtain ⟨a, b, rfl, h2, h3⟩ := is2_ex h1
    cases h with
    | tup n h r =>
      obtain ⟨x, y, _, _, rfl, e, hx, hy⟩ := ats2 r (Ats.len r)
      cases e
      cases hx
      cases hy
      walk_at "ss"
      exact and_t h3 (and_t h2 q)
  · rw [isStr_no h1] at q
    exact q
def t_is_coins (K : PySem.W.Frag) : TS :=
  (tRet (tAndV (tCall (sp_is_whole K) [] E0 (tCons (tVar 0) tNil)) (tChain rLe rLe (tC (.int 0)) (tVar 0) (tC (.int 1000000000000)))))
theorem pure_is_coins {K : PySem.W.Frag} {x : V} {H : Hp} {Q : VK} {E : XK} (h : sp_is_coins K [x] H Q E) : t_is_coins K { nx := fun _ H' => Q .non H', rt := Q } [some x] H := by
  obtain ⟨x, e, d, h, q⟩ := h
  cases e
  unfold t_is_coins
  walk_at "ss"
  cases h with
  | int i =>
    refine ite_t rfl ?_
    walk_at "ss"
    refine ite_b (fun h1 => ?_) fun h1 => ?_
    · walk_at "ss"
      exact and_t h1 q
    · exact and_f h1 q
  | _ => exact q
def t_is_nights (K : PySem.W.Frag) : TS :=
  (tRet (tAndV (tCall (sp_is_whole K) [] E0 (tCons (tVar 0) tNil)) (tChain rLe rLe (tC (.int 1)) (tVar 0) (tC (.int 14)))))
theorem pure_is_nights {K : PySem.W.Frag} {x : V} {H : Hp} {Q : VK} {E : XK} (h : sp_is_nights K [x] H Q E) : t_is_nights K { nx := fun _ H' => Q .non H', rt := Q } [some x] H := by
  obtain ⟨x, e, d, h, q⟩ := h
  cases e
  unfold t_is_nights
  walk_at "ss"
  cases h with
  | int i =>
    refine ite_t rfl ?_
    walk_at "ss"
    refine ite_b (fun h1 => ?_) fun h1 => ?_
    · walk_at "ss"
      exact and_t h1 q
    · exact and_f h1 q
  | _ => exact q
/-! YRl: lists of rules in the heap (second family). -/
open PySem PySem.Spec PyProof.Rows L2
/-- a list of rules' tuples stands at v -/
def RlAt (H : Hp) (v : V) (rs : List RuleD) : Prop := ∃ q xs, v = .ref q ∧ H q = some (.lst xs) ∧ Rus H xs rs
theorem same_kp {t b : Addr} {H G H' : Hp} (s : Same H G) (k : Kp [t, b] G H') (ft : Fr H t) (fb : Fr H b) : Same H H' := fun a o e => k a o (s a o e) fun m => by
  simp only [List.mem_cons, List.not_mem_nil, or_false] at m
  rcases m with rfl | rfl
  · rw [show H a = none from ft] at e; cases e
  · rw [show H a = none from fb] at e; cases e
/-! YTl: what a list of rules tells (second family). -/
open PySem PySem.Spec PyProof.Rows L2
def sp_Ltells (K : PySem.W.Frag) : Sp := Sp3 fun x u y H Q E => ∃ (p : Addr) (xs : List V) (rs : List RuleD) (w : Wd) (day : Int), x = .ref p ∧ H p = some (.lst xs) ∧ Rus H xs rs ∧ u = .str w.word ∧ y = .int day ∧ ∀ v H', Same H H' → Td H' v (tellsD rs w day) → Q v H'
theorem g_Ltells {K : PySem.W.Frag} {p : Addr} {xs : List V} {rs : List RuleD} {w : Wd} {z : Str} {day : Int} {H : Hp} {Q : VK} {E : XK} (h : H p = some (.lst xs)) (r : Rus H xs rs) (e : wordOf z = some w) (q : ∀ v H', Same H H' → Td H' v (tellsD rs w day) → Q v H') : sp_Ltells K ([.ref p, .str z, .int day] ++ []) H Q E := by
  have := wordOf_some e
  subst this
  exact ⟨_, _, _, rfl, p, xs, rs, w, day, rfl, h, r, rfl, rfl, q⟩
def kv5 : List (Key × V) := [(.inr "come", .bl true), (.inr "go", .bl true), (.inr "least", .int 1), (.inr "most", .int 14), (.inr "fee", .int 0)]
theorem kv5_val (w : Wd) : (valV (mergeK [] kv5) (.inr w.word)).getD .non = usualV w := by cases w <;> rfl
theorem g_kv5 {n : Nat} {w : Wd} {σ : L2.St} {H : Hp} {Q : VK} (h : σ[n]? = some (some (.str w.word))) (q : ∀ H', Same H H' → Q (usualV w) H') :
    tDGet1 (tDisp [((tC (.str "come")), (tC (.bl true))), ((tC (.str "go")), (tC (.bl true))), ((tC (.str "least")), (tC (.int 1))), ((tC (.str "most")), (tC (.int 14))), ((tC (.str "fee")), (tC (.int 0)))]) (tVar n) σ H Q := by
  intro p hp
  refine ⟨upd_same, kv5, rfl, by decide, ?_⟩
  refine ⟨p, rfl, .inl ⟨_, .inl upd_same⟩, _, h, _, DGet.k (k := .inr w.word) upd_same, ?_⟩
  rw [kv5_val]
  exact q _ (sm_own hp (same_new hp))
def t_Ltells (K : PySem.W.Frag) : TS :=
  (tSeq (tAsg (tDGet1 (tDisp [((tC (.str "come")), (tC (.bl true))), ((tC (.str "go")), (tC (.bl true))), ((tC (.str "least")), (tC (.int 1))), ((tC (.str "most")), (tC (.int 14))), ((tC (.str "fee")), (tC (.int 0)))]) (tVar 1)) (gName 3))
  (tSeq (tFor (iList K (tVar 0)) (gName 4)
  (tIfS (tAnd (tTest (tOp rEq (tOp (rIxT K) (tVar 4) (tC (.int 0))) (tVar 1))) (tTest (tChain rLe rLe (tOp (rIxT K) (tVar 4) (tC (.int 1))) (tVar 2) (tOp (rIxT K) (tVar 4) (tC (.int 2))))))
  (tAsg (tOp (rIxT K) (tVar 4) (tC (.int 3))) (gName 3))
  tNext))
  (tRet (tVar 3))))
theorem pure_Ltells {K : PySem.W.Frag} {x u y : V} {H : Hp} {Q : VK} {E : XK} (h : sp_Ltells K [x, u, y] H Q E) : t_Ltells K { nx := fun _ H' => Q .non H', rt := Q } [some x, some u, some y, none, none] H := by
  obtain ⟨x, u, y, e, p, xs, rs, w, day, rfl, hx, hp, rfl, rfl, q⟩ := h
  cases e
  unfold t_Ltells
  with_reducible refine g_seqA ?_
  with_reducible refine g_asg ?_
  refine g_kv5 rfl fun H1 s1 => ?_
  have hx1 := s1 _ _ hx
  have hp1 := ru_same s1 hp
  walk_at "ss"
  refine for_list (K := K) (a := p) (xs := xs) (fun i σ H' => ∃ v v4, σ = [some (.ref p), some (.str w.word), some (.int day), some v, v4] ∧ H' = H1 ∧ Td H1 v (dueD (rs.take i) w day)) ⟨_, _, rfl, rfl, usual_td _ w⟩ (fun i σ H' _ h => by obtain ⟨_, _, _, h, _⟩ := h; rw [h]; exact SqL.of hx1) ?_ ?_
  · rintro i x σ H' hi ⟨v, v4, rfl, rfl, hv⟩
    obtain ⟨r, hr, ⟨a, wv, rfl, ha, hw⟩⟩ := Paired.getL hp1 hi
    have et : rs.take (i + 1) = rs.take i ++ [r] := by rw [List.take_add_one, hr]; rfl
    have no : ¬ (r.w = w ∧ r.f ≤ day ∧ day ≤ r.l) → Td H' v (dueD (rs.take (i + 1)) w day) := fun z => by
      rw [et, due_snoc, if_neg z]; exact hv
    walk_at "ss"
    refine ite_b (fun z1 => ?_) fun z1 => ?_
    · have ew : r.w = w := Wd.word_inj (V.str.inj (of_decide_eq_true z1))
      walk_at "ss"
      refine ite_d (fun z2 => ?_) fun z2 => ?_
      · walk_at "ss"
        refine ite_d (fun z3 => ?_) fun z3 => ?_
        · walk_at "ss"
          refine ⟨_, _, rfl, rfl, ?_⟩
          rw [et, due_snoc, if_pos ⟨ew, z2, z3⟩]
          exact hw
        · walk_at "ss"
          exact ⟨_, _, rfl, rfl, no fun z => z3 z.2.2⟩
      · walk_at "ss"
        exact ⟨_, _, rfl, rfl, no fun z => z2 z.2.1⟩
    · walk_at "ss"
      exact ⟨_, _, rfl, rfl, no fun z => of_decide_eq_false z1 (by rw [z.1])⟩
  · rintro σ H' ⟨v, v4, rfl, rfl, hv⟩
    walk_at "ss"
    have hl := ru_len hp1
    rw [List.take_of_length_le (by omega), due_tells] at hv
    exact q v H' s1 hv
/-! YAq: what apart tells, kept past draws; ahead of it all stays are alike; alike books are told apart from a third alike (second family). -/
open PySem PySem.Spec PyProof.Rows L2
/-- what apart tells of two books -/
def FoundAt (H : Hp) (v : V) (rs ss : List RuleD) : Prop := (v = .non ∧ apO rs ss = none) ∨ ∃ n c p q, v = .ref p ∧ apO rs ss = some (n, c) ∧ H p = some (.tup [.ref q, coV (coinO rs c (c + (n : Nat))), coV (coinO ss c (c + (n : Nat)))]) ∧ H q = some (.tup [.int c, .int (c + (n : Nat))])
theorem FoundAt.same {H H' : Hp} {v : V} {rs ss : List RuleD} (s : Same H H') (h : FoundAt H v rs ss) : FoundAt H' v rs ss := by
  rcases h with h | ⟨n, c, p, q, e, e2, h1, h2⟩
  · exact .inl h
  · exact .inr ⟨n, c, p, q, e, e2, s _ _ h1, s _ _ h2⟩
theorem FoundAt.kp {H H' : Hp} {t : Addr} {v : V} {rs ss : List RuleD} (k : Kp [t, t] H H') (T : Tape H t t t) (h : FoundAt H v rs ss) : FoundAt H' v rs ss := by
  rcases h with h | ⟨n, c, p, q, e, e2, h1, h2⟩
  · exact .inl h
  · exact .inr ⟨n, c, p, q, e, e2, at_tk k T h1, at_tk k T h2⟩
def foundF (rs ss : List RuleD) : Option (Nat × Int) → PyData
  | none => .none
  | some (n, c) => .tuple [.tuple [.int c, .int (c + (n : Nat))], coD (coinO rs c (c + (n : Nat))), coD (coinO ss c (c + (n : Nat)))]
def foundD (rs ss : List RuleD) : PyData := foundF rs ss (apO rs ss)
theorem found_def (rs ss : List RuleD) : foundD rs ss = foundF rs ss (apO rs ss) := rfl
theorem FoundAt.dp {K : PySem.W.Frag} {H : Hp} {v : V} {rs ss : List RuleD} (h : FoundAt H v rs ss) : Dp K H v (foundD rs ss) := by
  rw [found_def]
  rcases h with ⟨rfl, e⟩ | ⟨n, c, p, q, rfl, e, h1, h2⟩
  · rw [e]; exact .non
  · rw [e]
    exact .tup (SqT.of h1) (.cons (.tup (SqT.of h2) (.cons (.int _) (.cons (.int _) .nil))) (.cons (co_td H _).dp (.cons (co_td H _).dp .nil)))
theorem sh_foundF (rs ss : List RuleD) : ∀ o, Sh 2 (foundF rs ss o)
  | none => sh_non _
  | some (n, c) => sh_tup fun x hx => by
    simp only [List.mem_cons, List.not_mem_nil, or_false] at hx
    rcases hx with rfl | rfl | rfl
    · refine sh_tup fun x hx => ?_
      simp only [List.mem_cons, List.not_mem_nil, or_false] at hx
      rcases hx with rfl | rfl <;> exact sh_int _ _
    · exact sh_co _ _
    · exact sh_co _ _
theorem sh_found (rs ss : List RuleD) : Sh 2 (foundD rs ss) := by
  rw [found_def]
  exact sh_foundF rs ss _
/-- two told things that read alike -/
theorem g_neD_found {K : PySem.W.Frag} {H : Hp} {Q : VK} {v u : V} {rs ss ps qs : List RuleD} (h : FoundAt H v rs ss) (k : FoundAt H u ps qs) (e : foundD rs ss = foundD ps qs) (q : Q (.bl false) H) : rNeD K v u H Q :=
  ⟨_, _, h.dp, k.dp, (sh_found _ _).ok (by decide), (sh_found _ _).ok (by decide), by rw [e, eqv_same _ (sh_found ps qs).1]; exact q⟩
theorem g_foundU {K : PySem.W.Frag} {x y : V} {rs ss : List RuleD} {H : Hp} {Q : VK} {E : XK} (cf : CFR K) (cb : CFB K) (b1 : BkAt K H x rs) (b2 : BkAt K H y ss) (g1 : ∀ r ∈ rs, RuleD.good r) (g2 : ∀ r ∈ ss, RuleD.good r) (l1 : rs.length ≤ 12) (l2 : ss.length ≤ 12) (k : ∀ v H', Same H H' → FoundAt H' v rs ss → Q v H') : sp_apart K ([x, y] ++ []) H Q E :=
  g_apart cf cb b1 b2 g1 g2 l1 l2 ⟨fun e H' s => k _ _ s (.inl ⟨rfl, e⟩), fun n c e p q H' s _ _ h1 h2 => k _ _ s (.inr ⟨n, c, p, q, rfl, e, h1, h2⟩)⟩
/-! YTw: few rules drawn, a list of rules turned (second family). -/
open PySem PySem.Spec PyProof.Rows L2
/-- a test that comes to b -/
theorem cut_tt {t : TT} {σ : L2.St} {H : Hp} {k : Bool → Hp → Prop} (b : Bool) (h : ∀ k' : Bool → Hp → Prop, k' b H → t σ H k') (q : k b H) : t σ H k := h _ q
/-- a test that comes to b and makes things -/
theorem cut_ts {t : TT} {σ : L2.St} {H : Hp} {k : Bool → Hp → Prop} (b : Bool) (h : ∀ k' : Bool → Hp → Prop, (∀ H', Same H H' → k' b H') → t σ H k') (q : ∀ H', Same H H' → k b H') : t σ H k := h _ q
theorem eqv_nil (ds : List PyData) : PyData.eqv (.list ds) (.list []) = decide (ds = []) := by
  rw [PyData.eqv]
  cases ds with
  | nil => rfl
  | cons d ds => simp [PyData.eqvAll]
theorem sh_rules {rs : List RuleD} (g : ∀ r ∈ rs, RuleD.good r) : Sh 3 (.list (rs.map RuleD.told)) := sh_lst (n := 2) fun d hd => by
  obtain ⟨r, hr, rfl⟩ := List.mem_map.mp hd
  exact sh_rule (g r hr)
theorem g_eqNilT {K : PySem.W.Frag} {H : Hp} {Q : VK} {p e : Addr} {xs : List V} {rs : List RuleD} (h : H p = some (.lst xs)) (t : Rus H xs rs) (g : ∀ r ∈ rs, RuleD.good r) (he : H e = some (.lst [])) (q : Q (.bl (decide (rs = []))) H) : rEqD K (.ref p) (.ref e) H Q :=
  ⟨_, .list [], dp_row (SqL.of h) t, .lst (SqL.of he) .nil, (sh_rules g).ok (by decide), (sh_lst (n := 0) (by simp)).ok (by decide), by
    rw [eqv_nil]
    have : decide (rs.map RuleD.told = []) = decide (rs = []) := by cases rs <;> rfl
    rw [this]
    exact q⟩
theorem g_insertV {H : Hp} {Q : VK} {l : Addr} {xs : List V} {i : Int} {y : V} (h : H l = some (.lst xs)) (z : xs.length < sizeLine) (h0 : 0 ≤ i) (h1 : i < 2 ^ 63) (q : Q .non (upd H l (.lst (xs.take i.toNat ++ [y] ++ xs.drop i.toNat)))) : rInsert (.ref l) [.int i, y] H Q := ⟨l, xs, i, y, rfl, rfl, h, z, h0, h1, q⟩
theorem seq_at {n : Nat} {i : Int} (h0 : 0 ≤ i) (h1 : i < n) : seqIndex? i n = some i.toNat := by
  unfold seqIndex?
  simp
  omega
theorem ru_at {H : Hp} {xs : List V} {rs : List RuleD} (h : Rus H xs rs) {i : Int} (h0 : 0 ≤ i) (h1 : i < rs.length) : ∃ a wv r, rs[i.toNat]? = some r ∧ atI xs i = some (.ref a) ∧ xs[i.toNat]? = some (.ref a) ∧ H a = some (.tup [.str r.w.word, .int r.f, .int r.l, wv]) ∧ Td H wv r.d := by
  have hj : i.toNat < rs.length := by omega
  have e : ((i.toNat : Nat) : Int) = i := by omega
  obtain ⟨v, hv, a, wv, rfl, ha, hw⟩ := Paired.getR h (List.getElem?_eq_getElem hj)
  exact ⟨a, wv, _, List.getElem?_eq_getElem hj, by have := atI_nat hv; rwa [e] at this, hv, ha, hw⟩
theorem ru_mem {H : Hp} {xs : List V} {rs : List RuleD} (h : Rus H xs rs) {v : V} (hv : v ∈ xs) : ∃ r ∈ rs, RuT H v r := by
  obtain ⟨i, hi⟩ := List.getElem?_of_mem hv
  obtain ⟨r, hr, q⟩ := Paired.getL h hi
  exact ⟨r, List.mem_of_getElem? hr, q⟩
theorem ix_at {n : Nat} {i : Int} (h0 : 0 ≤ i) (h1 : i < n) : ixN n i = some i.toNat := by
  unfold ixN
  rw [if_pos h0, if_pos h1]
theorem ru_set {H : Hp} {xs : List V} {rs : List RuleD} {v : V} {r : RuleD} {n : Nat} (h : Rus H xs rs) (hv : RuT H v r) : Rus H (xs.set n v) (rs.set n r) := by
  show Paired _ _ _
  induction h generalizing n with
  | nil => exact .nil
  | cons a t ih =>
    cases n with
    | zero => exact .cons hv t
    | succ n => exact .cons a ih
theorem ru_erase {H : Hp} {xs : List V} {rs : List RuleD} {n : Nat} (h : Rus H xs rs) : Rus H (xs.eraseIdx n) (rs.eraseIdx n) := by
  show Paired _ _ _
  induction h generalizing n with
  | nil => exact .nil
  | cons a t ih =>
    cases n with
    | zero => exact t
    | succ n => exact .cons a ih
theorem gd_set {rs : List RuleD} {r : RuleD} {n : Nat} (h : ∀ r ∈ rs, RuleD.good r) (g : r.good) : ∀ x ∈ rs.set n r, RuleD.good x := fun x hx => by
  rcases List.mem_or_eq_of_mem_set hx with h' | rfl
  · exact h x h'
  · exact g
def QRules (t b s : Addr) (n : Nat) (H : Hp) (Q : VK) : Prop := ∀ (p : Addr) (ys : List V) (rs : List RuleD) (H' : Hp), Tape H' t b s → Kp [t, b] H H' → Fr H p → H' p = some (.lst ys) → Rus H' ys rs → rs.length ≤ n → (∀ r ∈ rs, RuleD.good r) → Q (.ref p) H'
def sp_Lfew (K : PySem.W.Frag) : Sp := Sp3 fun x y z H Q E => ∃ (t b s : Addr) (m n : Int), x = .ref t ∧ y = .int m ∧ z = .int n ∧ Tape H t b s ∧ 0 ≤ m ∧ m ≤ 1000000 ∧ 0 ≤ n ∧ n ≤ 30 ∧ QRules t b s (n.toNat + 1) H Q
theorem g_Lfew {K : PySem.W.Frag} {t b s : Addr} {m n : Int} {H : Hp} {Q : VK} {E : XK} (T : Tape H t b s) (h0 : 0 ≤ m) (h1 : m ≤ 1000000) (n0 : 0 ≤ n) (n1 : n ≤ 30) (q : QRules t b s (n.toNat + 1) H Q) : sp_Lfew K ([.ref t, .int m, .int n] ++ []) H Q E :=
  ⟨_, _, _, rfl, t, b, s, m, n, rfl, rfl, rfl, T, h0, h1, n0, n1, q⟩
def sp_Lturned (K : PySem.W.Frag) : Sp := Sp3 fun x y z H Q E => ∃ (t b s p : Addr) (xs : List V) (rs : List RuleD) (m : Int), x = .ref t ∧ y = .ref p ∧ z = .int m ∧ Tape H t b s ∧ SqL K H p xs ∧ Rus H xs rs ∧ (∀ r ∈ rs, RuleD.good r) ∧ rs.length ≤ 100 ∧ 0 ≤ m ∧ m ≤ 1000000 ∧ QRules t b s (rs.length + 1) H Q
theorem g_Lturned {K : PySem.W.Frag} {t b s p : Addr} {xs : List V} {rs : List RuleD} {m : Int} {H : Hp} {Q : VK} {E : XK} (T : Tape H t b s) (h : SqL K H p xs) (r : Rus H xs rs) (g : ∀ r ∈ rs, RuleD.good r) (l : rs.length ≤ 100) (h0 : 0 ≤ m) (h1 : m ≤ 1000000) (q : QRules t b s (rs.length + 1) H Q) : sp_Lturned K ([.ref t, .ref p, .int m] ++ []) H Q E :=
  ⟨_, _, _, rfl, t, b, s, p, xs, rs, m, rfl, rfl, rfl, T, h, r, g, l, h0, h1, q⟩
def t_Lturned (K : PySem.W.Frag) : TS :=
  (tSeq (tAsg (tCB (rListOf K) (tCons (tVar 1) tNil)) (gName 3))
  (tSeq (tAsg (tCall (sp_Ltake K) [] E0 (tCons (tVar 0) (tCons (tOp rAdd (tCB (rLen K) (tCons (tVar 3) tNil)) (tC (.int 1))) tNil))) (gName 4))
  (tSeq (tAsg (tCall (sp_Ltake K) [] E0 (tCons (tVar 0) (tCons (tC (.int 6)) tNil))) (gName 5))
  (tSeq (tIfS (tOr (tTest (tOp rEq (tVar 5) (tC (.int 0)))) (tTest (tOp (rEqD K) (tVar 3) (tLst tNil))))
  (tDrop (tBM K "list" rInsert (tVar 3) (tCons (tVar 4) (tCons (tCall (sp_Lrule K) [] E0 (tCons (tVar 0) (tCons (tVar 2) tNil))) tNil))))
  (tIfS (tAnd (tTest (tOp rEq (tVar 5) (tC (.int 1)))) (tTest (tOp rLt (tVar 4) (tCB (rLen K) (tCons (tVar 3) tNil)))))
  (tDrop (tBM K "list" rPopAt (tVar 3) (tCons (tVar 4) tNil)))
  (tIfS (tTest (tOp rEq (tVar 5) (tC (.int 2))))
  (tDrop (tBM K "list" rAppend (tVar 3) (tCons (tOp (rIxL K) (tVar 3) (tCall (sp_Ltake K) [] E0 (tCons (tVar 0) (tCons (tCB (rLen K) (tCons (tVar 3) tNil)) tNil)))) tNil)))
  (tIfS (tAnd (tTest (tOp rEq (tVar 5) (tC (.int 3)))) (tTest (tOp rLt (tVar 4) (tCB (rLen K) (tCons (tVar 3) tNil)))))
  (tSeq (tAsg (tOp (rIxL K) (tVar 3) (tVar 4)) (gTup K 4 (gCons (gName 6) (gCons (gName 7) (gCons (gName 8) (gCons (gName 9) gNil))))))
  (tAsg (tTup (tCons (tVar 6) (tCons (tVar 7) (tCons (tCB rMax2 (tCons (tVar 7) (tCons (tOp rSub (tVar 8) (tCall (sp_Ltake K) [] E0 (tCons (tVar 0) (tCons (tC (.int 3)) tNil)))) tNil))) (tCons (tCall (sp_Lworth K) [] E0 (tCons (tVar 0) (tCons (tVar 6) tNil))) tNil))))) (gSub (tVar 3) (tVar 4) rSetL)))
  (tIfS (tTest (tOp rEq (tVar 5) (tC (.int 4))))
  (tSeq (tAsg (tCall (sp_Ltake K) [] E0 (tCons (tVar 0) (tCons (tCB (rLen K) (tCons (tVar 3) tNil)) tNil))) (gName 10))
  (tSeq (tAsg (tCall (sp_Ltake K) [] E0 (tCons (tVar 0) (tCons (tCB (rLen K) (tCons (tVar 3) tNil)) tNil))) (gName 11))
  (tAsg (tTup (tCons (tOp (rIxL K) (tVar 3) (tVar 11)) (tCons (tOp (rIxL K) (tVar 3) (tVar 10)) tNil))) (gTup K 2 (gCons (gSub (tVar 3) (tVar 10) rSetL) (gCons (gSub (tVar 3) (tVar 11) rSetL) gNil))))))
  tNext)))))
  (tRet (tVar 3))))))
theorem pure_Lturned {K : PySem.W.Frag} {x y z : V} {H : Hp} {Q : VK} {E : XK} (h : sp_Lturned K [x, y, z] H Q E) : t_Lturned K { nx := fun _ H' => Q .non H', rt := Q } ([some x, some y, some z] ++ List.replicate 9 none) H := by
  obtain ⟨x, y, z, e, t, b, s, p, xs, rs, m, rfl, rfl, rfl, T, h, R, gd, l, h0, h1, q⟩ := h
  cases e
  dsimp only [List.replicate, List.append, List.cons_append, List.nil_append]
  unfold t_Lturned
  have xl := ru_len R
  walk_at "ss"
  rename_i p3 hp3 at0 H1 a0 a1 T1 k1 way H2 w0 w1 T2 k2
  have n3 : p3 ∉ [t, b] := ni_tape hp3 T
  have k02 : Kp [t, b] H H2 := (Same.kp (same_new hp3) _).trans (k1.trans k2)
  have h3 : H2 p3 = some (.lst xs) := k2 _ _ (k1 _ _ upd_same n3) n3
  have R2 : Rus H2 xs rs := ru_kp k2 T1 (ru_kp k1 (tape_new hp3 T) (ru_new hp3 R))
  have a1' : at0 ≤ xs.length := by omega
  clear k1 k2 T1 R h
  dsimp only [List.set]
  with_reducible refine jn (P := fun σ H' => ∃ v6 v7 v8 v9 v10 v11 ys rs', σ = [some (.ref t), some (.ref p), some (.int m), some (.ref p3), some (.int at0), some (.int way), v6, v7, v8, v9, v10, v11] ∧ Tape H' t b s ∧ Kp [t, b] H H' ∧ H' p3 = some (.lst ys) ∧ Rus H' ys rs' ∧ rs'.length ≤ rs.length + 1 ∧ ∀ r ∈ rs', RuleD.good r) ?_ fun N hN => ?_
  · rintro σ H3 ⟨v6, v7, v8, v9, v10, v11, ys, rs', rfl, T3, k3, h3, R3, l3, g3⟩
    walk_at "ss"
    exact q p3 ys rs' H3 T3 k3 hp3 h3 R3 l3 g3
  · have own : ∀ {H3 : Hp} {o : HO}, Kp [t, b] H2 H3 → Kp [t, b] H (upd H3 p3 o) := fun k => kp_own hp3 (k02.trans k)
    have tpo : ∀ {H3 : Hp} {o : HO}, Tape H3 t b s → Tape (upd H3 p3 o) t b s := fun T' => tape_own hp3 T T'
    with_reducible refine g_ifS ?_
    refine cut_ts (decide (way = 0) || decide (rs = [])) (fun k' hk => ?_) fun H3 s3 => ?_
    · walk_at "ss"
      rw [int_eq]
      refine ite_b (fun z => ?_) fun z => ?_
      · rw [z] at hk
        exact hk _ (Same.refl _)
      · rw [z, Bool.false_or] at hk
        walk_at "ss"
        rename_i e0 he0
        refine g_eqNilT (at_new he0 h3) (ru_new he0 R2) gd upd_same ?_
        walk_at "ss"
        exact hk _ (same_new he0)
    have T3 := tape_same s3 T2
    have R3 := ru_same s3 R2
    have h33 := s3 _ _ h3
    have k03 : Kp [t, b] H2 H3 := Same.kp s3 _
    clear s3 T2 R2 h3
    refine ite_b (fun z => ?_) fun z => ?_
    · walk_at "ss"
      rename_i v r H4 T4 k4 hr hg
      refine g_insertV (k4 _ _ h33 n3) (by rw [sizeLine_eq]; omega) a0 (by omega) ?_
      have R4 := ru_kp k4 T3 R3
      have h34 := k4 _ _ h33 n3
      walk_at "ss"
      refine hN _ _ ⟨_, _, _, _, _, _, _, rs.take at0.toNat ++ [r] ++ rs.drop at0.toNat, rfl, tpo T4, own (k03.trans k4), upd_same, ru_put h34 (ru_app (ru_app (ru_take R4) (.cons hr .nil)) (ru_drop R4)), ?_, gd_app (gd_app (gd_take gd) fun x hx => by rw [List.mem_singleton.mp hx]; exact hg) (gd_drop gd)⟩
      simp
      omega
    · have hne : rs ≠ [] := by
        intro e
        rw [decide_eq_true e, Bool.or_true] at z
        cases z
      have lr : 0 < rs.length := List.length_pos_iff.mpr hne
      with_reducible refine g_ifS ?_
      refine cut_tt (decide (way = 1) && decide (at0 < (xs.length : Int))) (fun k' hk => ?_) ?_
      · walk_at "ss"
        rw [int_eq]
        refine ite_b (fun z => ?_) fun z => ?_
        · rw [z, Bool.true_and] at hk
          walk_at "ss"
          exact hk
        · rw [z, Bool.false_and] at hk
          exact hk
      refine ite_b (fun z => ?_) fun z => ?_
      · have z2 := of_decide_eq_true (Bool.and_eq_true_iff.mp z).2
        obtain ⟨a, wv, r, hr, hat, hx, ha, hw⟩ := ru_at R3 a0 (by omega)
        walk_at "ss"
        refine g_popAt h33 (by omega) (by omega) (seq_at a0 z2) hx ?_
        walk_at "ss"
        refine hN _ _ ⟨_, _, _, _, _, _, _, rs.eraseIdx at0.toNat, rfl, tpo T3, own k03, upd_same, ru_put h33 (ru_erase R3), ?_, fun x hx => gd x (List.mem_of_mem_eraseIdx hx)⟩
        have := List.length_eraseIdx_le rs at0.toNat
        omega
      with_reducible refine g_ifS ?_
      walk_at "ss"
      rw [int_eq]
      refine ite_d (fun z => ?_) fun z => ?_
      · walk_at "ss"
        rename_i i4 H4 i40 i41 T4 k4 v hv
        obtain ⟨r, hr, rv⟩ := ru_mem (ru_kp k4 T3 R3) hv
        have h34 := k4 _ _ h33 n3
        refine hN _ _ ⟨_, _, _, _, _, _, _, rs ++ [r], rfl, tpo T4, own (k03.trans k4), upd_same, ru_put h34 (ru_app (ru_kp k4 T3 R3) (.cons rv .nil)), by simp, gd_app gd fun x hx => by rw [List.mem_singleton.mp hx]; exact gd _ hr⟩
      with_reducible refine g_ifS ?_
      refine cut_tt (decide (way = 3) && decide (at0 < (xs.length : Int))) (fun k' hk => ?_) ?_
      · walk_at "ss"
        rw [int_eq]
        refine ite_b (fun z => ?_) fun z => ?_
        · rw [z, Bool.true_and] at hk
          walk_at "ss"
          exact hk
        · rw [z, Bool.false_and] at hk
          exact hk
      refine ite_b (fun z => ?_) fun z => ?_
      · have z2 := of_decide_eq_true (Bool.and_eq_true_iff.mp z).2
        obtain ⟨a, wv, r, hr, hat, hx, ha, hw⟩ := ru_at R3 a0 (by omega)
        have gr := gd _ (List.mem_of_getElem? hr)
        walk_at "ss"
        rename_i i5 H5 i50 i51 T5 k5 nv nd H6 T6 k6 hnv hnf p6 hp6
        have h36 := k6 _ _ (k5 _ _ h33 n3) n3
        obtain ⟨f0, f1, f2, -⟩ := gr
        refine g_setL (n := at0.toNat) (at_new hp6 h36) (ix_at a0 z2) ?_
        walk_at "ss"
        rw [mxi] at *
        refine hN _ _ ⟨_, _, _, _, _, _, _, rs.set at0.toNat ⟨r.w, r.f, max r.f (r.l - i5), nd⟩, rfl, tpo (tape_new hp6 T6), own (kp_new hp6 (kp_tr k6 (kp_tr k5 k03))), upd_same, ru_put (at_new hp6 h36) (ru_set (ru_new hp6 (ru_kp k6 T5 (ru_kp k5 T3 R3))) ⟨p6, nv, rfl, upd_same, td_new hp6 hnv⟩), by rw [List.length_set]; omega, gd_set gd ⟨f0, ?_, ?_, hnf⟩⟩
        · show r.f ≤ max r.f (r.l - i5)
          omega
        · show max r.f (r.l - i5) ≤ 1000000
          omega
      with_reducible refine g_ifS ?_
      walk_at "ss"
      rw [int_eq]
      refine ite_d (fun z => ?_) fun z => ?_
      · walk_at "ss"
        rename_i i5 H5 i50 i51 T5 k5 i6 H6 i60 i61 T6 k6 v1 hv1 v2 hv2 p6 hp6
        have h36 := k6 _ _ (k5 _ _ h33 n3) n3
        have R6 := ru_new (o := .tup [v1, v2]) hp6 (ru_kp k6 T5 (ru_kp k5 T3 R3))
        obtain ⟨r1, hr1, q1⟩ := ru_mem R6 hv1
        obtain ⟨r2, hr2, q2⟩ := ru_mem R6 hv2
        have h37 := at_new (u := .tup [v1, v2]) hp6 h36
        refine g_setL (n := i5.toNat) h37 (ix_at i50 i51) ?_
        walk_at "ss"
        refine g_setL (n := i6.toNat) upd_same (by rw [List.length_set]; exact ix_at i60 i61) ?_
        walk_at "ss"
        refine hN _ _ ⟨_, _, _, _, _, _, _, (rs.set i5.toNat r1).set i6.toNat r2, rfl, tpo (tpo (tape_new hp6 T6)), kp_own hp3 (own (kp_new hp6 (kp_tr k6 (kp_tr k5 k03)))), upd_same, ru_put upd_same (ru_put h37 (ru_set (ru_set R6 q1) q2)), by rw [List.length_set, List.length_set]; omega, gd_set (gd_set gd (gd _ hr1)) (gd _ hr2)⟩
      · walk_at "ss"
        exact hN _ _ ⟨_, _, _, _, _, _, xs, rs, rfl, T3, k02.trans k03, h33, R3, by omega, gd⟩
/-! YFw: few rules drawn as in k67 and k69 (second family). -/
open PySem PySem.Spec PyProof.Rows L2
def t_Lfew (K : PySem.W.Frag) : TS :=
  (tSeq (tAsg (tLst tNil) (gName 3))
  (tSeq (tIfS (tTest (tOp rEq (tCall (sp_Ltake K) [] E0 (tCons (tVar 0) (tCons (tC (.int 12)) tNil))) (tC (.int 0))))
  (tRet (tLst (tCons (tTup (tCons (tC (.str "price")) (tCons (tC (.int 0)) (tCons (tOp rPow (tC (.int 10)) (tC (.int 6))) (tCons (tC (.int 5)) tNil))))) tNil)))
  tNext)
  (tSeq (tIfS (tTest (tOp rGt (tCall (sp_Ltake K) [] E0 (tCons (tVar 0) (tCons (tC (.int 8)) tNil))) (tC (.int 0))))
  (tDrop (tBM K "list" rAppend (tVar 3) (tCons (tTup (tCons (tC (.str "price")) (tCons (tCB rMax2 (tCons (tC (.int 0)) (tCons (tOp rSub (tVar 1) (tC (.int 2))) tNil))) (tCons (tCB rMin2 (tCons (tOp rPow (tC (.int 10)) (tC (.int 6))) (tCons (tOp rAdd (tVar 1) (tC (.int 9))) tNil))) (tCons (tOp rAdd (tCall (sp_Ltake K) [] E0 (tCons (tVar 0) (tCons (tC (.int 3)) tNil))) (tC (.int 4))) tNil))))) tNil)))
  tNext)
  (tSeq (tFor (iRng1 (tCons (tCall (sp_Ltake K) [] E0 (tCons (tVar 0) (tCons (tOp rAdd (tVar 2) (tC (.int 1))) tNil))) tNil)) (gName 4)
  (tDrop (tBM K "list" rAppend (tVar 3) (tCons (tCall (sp_Lrule K) [] E0 (tCons (tVar 0) (tCons (tVar 1) tNil))) tNil))))
  (tRet (tVar 3))))))
theorem pure_Lfew {K : PySem.W.Frag} {x y z : V} {H : Hp} {Q : VK} {E : XK} (h : sp_Lfew K [x, y, z] H Q E) : t_Lfew K { nx := fun _ H' => Q .non H', rt := Q } [some x, some y, some z, none, none] H := by
  obtain ⟨x, y, z, e, t, b, s, m, n, rfl, rfl, rfl, T, h0, h1, n0, n1, q⟩ := h
  cases e
  unfold t_Lfew
  walk_at "ss"
  rename_i p3 hp3 d0 H1 d00 d01 T1 k1
  have n3 : p3 ∉ [t, b] := ni_tape hp3 T
  have tp3 : ∀ {H : Hp} {o : HO}, Tape H t b s → Tape (upd H p3 o) t b s := fun T' => tape_own hp3 T T'
  have a1 : H1 p3 = some (.lst []) := k1 _ _ upd_same n3
  have k01 : Kp [t, b] H H1 := kp_tr k1 (kp_own hp3 (Kp.refl _ _))
  refine ite_d (fun z => ?_) fun z => ?_
  · walk_at "ss"
    rename_i p4 hp4 p5 hp5
    refine q p5 [.ref p4] [⟨.price, 0, 1000000, .int 5⟩] _ (by walk_at "tp") (kp_new hp5 (kp_new hp4 k01)) (fr_kp (fr_new hp5) k01 (ni_tape (fr_new hp5) T1)) upd_same ?_ (by simp) ?_
    · exact .cons ⟨p4, .int 5, rfl, at_new hp5 upd_same, .int _⟩ .nil
    · intro r hr
      rw [List.mem_singleton.mp hr]
      exact ⟨by decide, by decide, by decide, by decide⟩
  · walk_at "ss"
    with_reducible refine jn (P := fun σ H' => ∃ ys rs, σ = [some (.ref t), some (.int m), some (.int n), some (.ref p3), none] ∧ Tape H' t b s ∧ Kp [t, b] H H' ∧ H' p3 = some (.lst ys) ∧ Rus H' ys rs ∧ rs.length ≤ 1 ∧ ∀ r ∈ rs, RuleD.good r) ?_ fun N hN => ?_
    · rintro σ H2 ⟨ys, rs, rfl, T2, k2, h3, R2, l2, g2⟩
      walk_at "ss"
      rename_i mm H3 m0 m1 T3 k3
      have l2' := ru_len R2
      refine for_range (lo := 0) (n := mm.toNat) (fun i σ H' => ∃ v4 ys rs, σ = [some (.ref t), some (.int m), some (.int n), some (.ref p3), v4] ∧ Tape H' t b s ∧ Kp [t, b] H H' ∧ H' p3 = some (.lst ys) ∧ Rus H' ys rs ∧ rs.length ≤ 1 + i ∧ ∀ r ∈ rs, RuleD.good r)
        ⟨_, ys, rs, rfl, T3, k2.trans k3, k3 _ _ h3 n3, ru_kp k3 T2 R2, by omega, g2⟩ ?_ ?_
      · rintro i σ H4 hi ⟨v4, ys, rs, rfl, T4, k4, h4, R4, l4, g4⟩
        have l4' := ru_len R4
        walk_at "ss"
        rename_i v r H5 T5 k5 hr hg
        have h35 := k5 _ _ h4 n3
        exact ⟨_, ys ++ [v], rs ++ [r], rfl, tp3 T5, kp_own hp3 (k4.trans k5), upd_same, ru_put h35 (ru_app (ru_kp k5 T4 R4) (.cons hr .nil)), by rw [List.length_append, List.length_singleton]; omega, gd_app g4 fun r' hr' => by rw [List.mem_singleton.mp hr']; exact hg⟩
      · rintro σ H4 ⟨v4, ys, rs, rfl, T4, k4, h4, R4, l4, g4⟩
        walk_at "ss"
        exact q p3 ys rs H4 T4 k4 hp3 h4 R4 (by omega) g4
    · walk_at "ss"
      rename_i d H2 d0' d1' T2 k2
      refine ite_d (fun z => ?_) fun z => ?_
      · walk_at "ss"
        rename_i c H3 c0 c1 T3 k3 p4 hp4
        have a3 : H3 p3 = some (.lst []) := k3 _ _ (k2 _ _ a1 n3) n3
        rw [mxi, mni]
        refine hN _ _ ⟨[.ref p4], [⟨.price, max 0 (m - 2), min 1000000 (m + 9), .int (c + 4)⟩], rfl, tp3 (by walk_at "tp"), ?_, upd_same, ?_, by simp, fun r hr => ?_⟩
        · exact kp_own hp3 (kp_new hp4 (kp_tr k3 (kp_tr k2 k01)))
        · exact ru_put (at_new hp4 a3) (.cons ⟨p4, .int (c + 4), rfl, upd_same, .int _⟩ .nil)
        · rw [List.mem_singleton.mp hr]
          refine ⟨?_, ?_, ?_, ?_⟩
          · show (0 : Int) ≤ max 0 (m - 2); omega
          · show max 0 (m - 2) ≤ min 1000000 (m + 9); omega
          · show min 1000000 (m + 9) ≤ (1000000 : Int); omega
          · show (isNone (.int (c + 4)) || isCoins (.int (c + 4))) = true
            rw [coins_ok (by omega) (by omega)]; rfl
      · walk_at "ss"
        refine hN _ _ ⟨[], [], rfl, T2, kp_tr k2 k01, k2 _ _ a1 n3, ru_nil, by simp, by simp⟩
/-! YPy: what is paid, bundle by bundle. -/
open PySem PySem.Spec PyProof.Rows L2
theorem key_drop {ps : List Int} {m : Nat} (h : m ≤ ps.length) (j : Nat) : key (ps.drop m) j = key ps (m + j) := by
  unfold key
  rw [List.length_drop, List.getD_eq_getElem?_getD, List.getD_eq_getElem?_getD, List.getElem?_drop]
  congr 1
  omega
theorem bund_drop {ps : List Int} {m : Nat} (h : m ≤ ps.length) (b : Nat) : bund (ps.drop m) m b = bund ps m (b + 1) := by
  unfold bund
  refine List.map_congr_left fun i _ => ?_
  rw [key_drop h]
  congr 1
  rw [Nat.succ_mul]
  omega
theorem rank_drop {ps : List Int} {m : Nat} (hm : 0 < m) (h : m ≤ ps.length) (j : Nat) : rank (ps.drop m) m j = rank ps m (m + j) := by
  unfold rank
  rw [Nat.add_div_left j hm, bund_drop h, key_drop h]
theorem isMk_drop {ps : List Int} {m f : Nat} (hm : 0 < m) (h : m ≤ ps.length) (j : Nat) : isMk (ps.drop m) m f j = isMk ps m f (m + j) := by
  unfold isMk
  rw [rank_drop hm h, Nat.add_div_left j hm, List.length_drop]
  congr 1
  refine decide_eq_decide.mpr ?_
  have : ps.length / m = (ps.length - m) / m + 1 := by
    rw [← Nat.add_div_right _ hm]
    congr 1
    omega
  omega
theorem pr_drop (ps : List Int) (m j : Nat) : pr (ps.drop m) j = pr ps (m + j) := by
  unfold pr
  rw [List.getD_eq_getElem?_getD, List.getD_eq_getElem?_getD, List.getElem?_drop]
theorem sumP : ∀ {l l' : List Int}, l.Perm l' → l.sum = l'.sum := fun h => by
  induction h with
  | nil => rfl
  | cons x _ ih => rw [List.sum_cons, List.sum_cons, ih]
  | swap x y l => rw [List.sum_cons, List.sum_cons, List.sum_cons, List.sum_cons]; omega
  | trans _ _ ih1 ih2 => rw [ih1, ih2]
theorem sum_in (us : List Pr) : ∀ l : List Pr, (∀ x ∈ l, x ∈ us) → (l.map fun x => if x ∈ us then x.1 else 0).sum = (l.map (·.1)).sum
  | [], _ => rfl
  | x :: l, h => by
    rw [List.map_cons, List.map_cons, List.sum_cons, List.sum_cons, if_pos (h x List.mem_cons_self), sum_in us l fun y hy => h y (List.mem_cons_of_mem _ hy)]
theorem sum_out (us : List Pr) : ∀ l : List Pr, (∀ x ∈ l, ¬ x ∈ us) → (l.map fun x => if x ∈ us then x.1 else 0).sum = 0
  | [], _ => rfl
  | x :: l, h => by
    rw [List.map_cons, List.sum_cons, if_neg (h x List.mem_cons_self), sum_out us l fun y hy => h y (List.mem_cons_of_mem _ hy)]
    rfl
theorem take_pr {ps : List Int} {m : Nat} (h : m ≤ ps.length) : ps.take m = (List.range m).map fun i => pr ps i := by
  refine List.ext_getElem? fun i => ?_
  by_cases z : i < m
  · rw [List.getElem?_take_of_lt z, List.getElem?_map, List.getElem?_range z]
    have : i < ps.length := by omega
    simp [pr, List.getD_eq_getElem?_getD, this]
  · rw [List.getElem?_eq_none (by rw [List.length_take]; omega), List.getElem?_eq_none (by simp; omega)]
theorem first_free {ps ns : List Int} {m f : Nat} (hm : 0 < m) (hl : m ≤ ps.length) (hp : ns.Perm (ps.take m)) (ho : ns.Pairwise (· ≤ ·)) : sumR (mkd (pr ps) (isMk ps m f)) m = (ns.take f).sum := by
  obtain ⟨us, hpu, hou⟩ := sort_ex (bund ps m 0)
  have e1 : us.map (·.1) = ns := by
    refine List.Perm.eq_of_pairwise (le := (· ≤ ·)) (fun _ _ _ _ a b => Int.le_antisymm a b) (List.pairwise_map.mpr (hou.imp fun h => by omega)) ho ?_
    refine ((hpu.map (·.1)).trans ?_).trans hp.symm
    rw [take_pr hl]
    unfold bund
    rw [List.map_map]
    refine List.Perm.of_eq (List.map_congr_left fun i _ => ?_)
    show (key ps (0 * m + i)).1 = pr ps i
    rw [Nat.zero_mul, Nat.zero_add]
    rfl
  have e2 : sumR (mkd (pr ps) (isMk ps m f)) m = ((bund ps m 0).map fun x => if x ∈ us.take f then x.1 else 0).sum := by
    unfold sumR bund
    rw [List.map_map]
    congr 1
    refine List.map_congr_left fun i hi => ?_
    have hi' := List.mem_range.mp hi
    show mkd (pr ps) (isMk ps m f) i = if key ps (0 * m + i) ∈ us.take f then (key ps (0 * m + i)).1 else 0
    rw [Nat.zero_mul, Nat.zero_add]
    unfold mkd
    have q : isMk ps m f i = true ↔ key ps i ∈ us.take f := by
      rw [mem_take hm hpu hou]
      unfold isMk
      have d0 : i / m = 0 := Nat.div_eq_of_lt hi'
      have d1 : 0 < ps.length / m := Nat.div_pos hl hm
      rw [d0, Bool.and_eq_true, decide_eq_true_eq, decide_eq_true_eq]
      exact ⟨fun h => ⟨rfl, h.2⟩, fun h => ⟨d1, h.2⟩⟩
    by_cases z : key ps i ∈ us.take f
    · rw [if_pos (q.mpr z), if_pos z]; rfl
    · rw [if_neg (fun y => z (q.mp y)), if_neg z]
  have e3 : ((bund ps m 0).map fun x => if x ∈ us.take f then x.1 else 0).sum = (us.map fun x => if x ∈ us.take f then x.1 else 0).sum := sumP (hpu.symm.map _)
  have nd : us.Nodup := hpu.nodup_iff.mpr (nodup_bund ps m 0)
  have e4 : (us.map fun x => if x ∈ us.take f then x.1 else 0).sum = ((us.take f).map (·.1)).sum := by
    have e := List.take_append_drop f us
    have dj := by
      have nd' := nd
      rw [← e] at nd'
      exact (List.nodup_append.mp nd').2.2
    have : us.map (fun x => if x ∈ us.take f then x.1 else 0) = (us.take f ++ us.drop f).map (fun x => if x ∈ us.take f then x.1 else 0) := by rw [e]
    rw [this, List.map_append, List.sum_append, sum_in _ _ (fun _ h => h), sum_out _ _ (fun x hx h => dj x h x hx rfl), Int.add_zero]
  rw [e2, e3, e4, ← e1, List.map_take]
theorem allS_sum (ps : List Int) : allS ps = ps.sum := by
  unfold allS sumR
  have := take_pr (Nat.le_refl ps.length)
  rw [List.take_length] at this
  rw [← this]
theorem paid_bare (ps : List Int) : paidS ps none = ps.sum := by
  unfold paidS freeS
  have : sumR (mkd (pr ps) (markB ps none)) ps.length = 0 := by
    have z : ∀ n : Nat, sumR (mkd (pr ps) (markB ps none)) n = 0 := fun n => by
      induction n with
      | zero => rfl
      | succ n ih => rw [sumR_succ, ih]; rfl
    exact z _
  rw [this, allS_sum, Int.sub_zero]
/-- fewer than a bundle -/
theorem paid_short {ps : List Int} {d : Int × Int} (h : ps.length < d.1.toNat) : paidS ps (some d) = ps.sum := by
  unfold paidS freeS
  have z : ∀ n : Nat, sumR (mkd (pr ps) (markB ps (some d))) n = 0 := fun n => by
    induction n with
    | zero => rfl
    | succ n ih =>
      rw [sumR_succ, ih]
      show 0 + mkd (pr ps) (isMk ps d.1.toNat d.2.toNat) n = 0
      unfold mkd isMk
      rw [Nat.div_eq_of_lt h]
      simp
  rw [z, allS_sum, Int.sub_zero]
/-- a bundle, its least ones free, and the rest -/
theorem paid_bundle {ps ns : List Int} {d : Int × Int} (hm : 0 < d.1.toNat) (h : d.1.toNat ≤ ps.length) (hp : ns.Perm (ps.take d.1.toNat)) (ho : ns.Pairwise (· ≤ ·)) : paidS ps (some d) = (ns.drop d.2.toNat).sum + paidS (ps.drop d.1.toNat) (some d) := by
  unfold paidS freeS
  rw [allS_sum, allS_sum]
  have e : ps.length = d.1.toNat + (ps.drop d.1.toNat).length := by rw [List.length_drop]; omega
  have s1 : sumR (mkd (pr ps) (markB ps (some d))) ps.length = (ns.take d.2.toNat).sum + sumR (mkd (pr (ps.drop d.1.toNat)) (markB (ps.drop d.1.toNat) (some d))) (ps.drop d.1.toNat).length := by
    conv => lhs; rw [e]
    rw [sumR_add]
    congr 1
    · exact first_free hm h hp ho
    · refine sumR_congr fun j _ => ?_
      show mkd (pr ps) (isMk ps _ _) (d.1.toNat + j) = mkd (pr (ps.drop d.1.toNat)) (isMk (ps.drop d.1.toNat) _ _) j
      unfold mkd
      rw [isMk_drop hm h, pr_drop]
  rw [s1]
  have s2 : ps.sum = (ns.take d.2.toNat).sum + (ns.drop d.2.toNat).sum + (ps.drop d.1.toNat).sum := by
    have a : (ps.take d.1.toNat).sum = ns.sum := (sumP hp).symm
    have b : ps.sum = (ps.take d.1.toNat).sum + (ps.drop d.1.toNat).sum := by rw [← List.sum_append, List.take_append_drop]
    have c : ns.sum = (ns.take d.2.toNat).sum + (ns.drop d.2.toNat).sum := by rw [← List.sum_append, List.take_append_drop]
    omega
  rw [s2]
  omega
/-! YMq: a rule laid over, and the bill's sum. -/
open PySem PySem.Spec PyProof.Rows L2
theorem sum_eq (rs : List RuleD) (c g : Int) : sumD rs c g = numI rs .fee c + paidS (pricesL rs c g) (dealO rs c) := by
  unfold sumD
  rw [paid_eq]
/-! YPl: what a stay costs, reckoned by the law. -/
open PySem PySem.Spec PyProof.Rows L2
def sp_Lprice (K : PySem.W.Frag) : Sp := Sp3 fun x y z H Q E => ∃ (p : Addr) (xs : List V) (rs : List RuleD) (b e : Int), x = .ref p ∧ y = .int b ∧ z = .int e ∧ H p = some (.lst xs) ∧ Rus H xs rs ∧ (∀ r ∈ rs, RuleD.good r) ∧ (0 ≤ b ∧ b < e ∧ e ≤ b + 14 ∧ e ≤ 1000000) ∧ ∀ H', Same H H' → Q (coV (coinO rs b e)) H'
theorem g_Lprice {K : PySem.W.Frag} {p : Addr} {xs : List V} {rs : List RuleD} {b e : Int} {H : Hp} {Q : VK} {E : XK} (h : H p = some (.lst xs)) (R : Rus H xs rs) (gd : ∀ r ∈ rs, RuleD.good r) (hb : 0 ≤ b ∧ b < e ∧ e ≤ b + 14 ∧ e ≤ 1000000) (q : ∀ H', Same H H' → Q (coV (coinO rs b e)) H') : sp_Lprice K ([.ref p, .int b, .int e] ++ []) H Q E :=
  ⟨_, _, _, rfl, p, xs, rs, b, e, rfl, rfl, rfl, h, R, gd, hb, q⟩
def t_Lprice (K : PySem.W.Frag) : TS :=
  (tSeq (tAsg (tOp rSub (tVar 2) (tVar 1)) (gName 3))
  (tSeq (tIfS (tOr (tTest (tOp rIsN (tCall (sp_Ltells K) [] E0 (tCons (tVar 0) (tCons (tC (.str "price")) (tCons (tVar 1) tNil)))) (tC .non))) (tNot (Y.tTru K (tCall (sp_Ltells K) [] E0 (tCons (tVar 0) (tCons (tC (.str "come")) (tCons (tVar 1) tNil)))))))
  (tRet (tC .non))
  tNext)
  (tSeq (tAsg (tLc (iRng2 (tCons (tVar 1) (tCons (tVar 2) tNil))) (gName 8) tYes (tCall (sp_Ltells K) [] E0 (tCons (tVar 0) (tCons (tC (.str "price")) (tCons (tVar 8) tNil)))) [8]) (gName 4))
  (tSeq (tIfS (tOr (tTest (tOp (rIn K false) (tC .non) (tVar 4))) (tOr (tNot (Y.tTru K (tCall (sp_Ltells K) [] E0 (tCons (tVar 0) (tCons (tC (.str "come")) (tCons (tVar 1) tNil)))))) (tNot (Y.tTru K (tCall (sp_Ltells K) [] E0 (tCons (tVar 0) (tCons (tC (.str "go")) (tCons (tVar 2) tNil))))))))
  (tRet (tC .non))
  tNext)
  (tSeq (tIfS (tNot (tTest (tChain rLe rLe (tCall (sp_Ltells K) [] E0 (tCons (tVar 0) (tCons (tC (.str "least")) (tCons (tVar 1) tNil)))) (tVar 3) (tCall (sp_Ltells K) [] E0 (tCons (tVar 0) (tCons (tC (.str "most")) (tCons (tVar 1) tNil)))))))
  (tRet (tC .non))
  tNext)
  (tSeq (tAsg (tCall (sp_Ltells K) [] E0 (tCons (tVar 0) (tCons (tC (.str "fee")) (tCons (tVar 1) tNil)))) (gName 5))
  (tSeq (tAsg (tCall (sp_Ltells K) [] E0 (tCons (tVar 0) (tCons (tC (.str "deal")) (tCons (tVar 1) tNil)))) (gName 6))
  (tSeq (tWhile (tAnd (tTest (tOp rNotN (tVar 6) (tC .non))) (tTest (tOp rGe (tCB (rLen K) (tCons (tVar 4) tNil)) (tOp (rIxT K) (tVar 6) (tC (.int 0))))))
  (tSeq (tAsg (tCB (rSortedI K) (tCons (tSl (rSlL K) (tVar 4) tNoPart (tPart (tOp (rIxT K) (tVar 6) (tC (.int 0))))) tNil)) (gName 7))
  (tSeq (tAsg (tSl (rSlL K) (tVar 4) (tPart (tOp (rIxT K) (tVar 6) (tC (.int 0)))) tNoPart) (gName 4))
  (tAsg (tOp rAdd (tVar 5) (tCB (rSum K) (tCons (tSl (rSlL K) (tVar 7) (tPart (tOp (rIxT K) (tVar 6) (tC (.int 1)))) tNoPart) tNil))) (gName 5)))))
  (tRet (tOp rAdd (tVar 5) (tCB (rSum K) (tCons (tVar 4) tNil))))))))))))
theorem pure_Lprice {K : PySem.W.Frag} {x y z : V} {H : Hp} {Q : VK} {E : XK} (h : sp_Lprice K [x, y, z] H Q E) : t_Lprice K { nx := fun _ H' => Q .non H', rt := Q } [some x, some y, some z, none, none, none, none, none, none] H := by
  obtain ⟨x, y, z, e0, p, xs, rs, b, e, rfl, rfl, rfl, h, R, gd, ⟨b0, b1, b2, b3⟩, q⟩ := h
  cases e0
  unfold t_Lprice
  have no : ∀ {H'}, Same H H' → hadB rs b e = false → Q .non H' := fun s z => by
    have := q _ s
    unfold coinO at this
    rwa [z] at this
  have yes : ∀ {H'}, Same H H' → hadB rs b e = true → Q (.int (sumD rs b e)) H' := fun s z => by
    have := q _ s
    unfold coinO at this
    rwa [z] at this
  clear q
  walk_at "ss"
  refine g_Ltells h R rfl fun v H1 s1 t1 => ?_
  have days0 : b ∈ days b e := mem_days.mpr ⟨Int.le_refl _, b1⟩
  have ns : ∀ d ∈ days b e, soldB rs d = false → hadB rs b e = false := fun d hd z => by
    cases w : hadB rs b e with
    | false => rfl
    | true => rw [had_sold w d hd] at z; cases z
  have nc : comeB rs .come b = false → hadB rs b e = false := fun z => by unfold hadB; rw [z, Bool.false_and, Bool.and_false, Bool.and_false]
  have h1 := s1 _ _ h
  have R1 := ru_same s1 R
  rcases price_v gd t1 with ⟨so, rfl⟩ | ⟨so, rfl, -⟩
  · walk_at "ss"
    exact no s1 (ns b days0 so)
  iterate 1 walk_at "s1"
  dsimp only [List.set]
  walk_at "st"
  refine ite_f (by simp) ?_
  walk_at "st"
  refine g_Ltells h1 R1 rfl fun v2 H2 s2 t2 => ?_
  obtain rfl := come_b gd (.inl rfl) t2
  have s02 := s1.trans s2
  have h2 := s2 _ _ h1
  have R2 := ru_same s2 R1
  clear h1 R1 t1 t2 s2 s1
  cases hc : comeB rs .come b with
  | false =>
    walk_at "st"
    exact no s02 (nc hc)
  | true =>
  walk_at "st"
  refine lc_w (f := fun j => ((days b e)[j]?).map fun d => if soldB rs d = true then V.int (numI rs .price d) else V.non) walk_range (by omega) (fun _ _ => trivial) ?_ ?_
  · rintro D j xj Ha Hb N hD hj sa ⟨rfl, rfl⟩ hy hn
    have dg : (days b e)[j]? = some (b + (j : Int)) := days_get (by omega)
    walk_at "ss"
    refine g_Ltells (sa _ _ h2) (ru_same sa R2) rfl fun v H4 s4 t4 => ?_
    walk_at "ss"
    rcases price_v gd t4 with ⟨so', rfl⟩ | ⟨so', rfl, -⟩
    · exact hy _ _ (by rw [dg, Option.map_some, so']; rfl) s4
    · exact hy _ _ (by rw [dg, Option.map_some, so']; rfl) s4
  intro D H3 hD s3 h3
  rw [← days_len b e] at h3
  have s03 := s02.trans s3
  have h3p := s3 _ _ h2
  have R3 := ru_same s3 R2
  have ek : (List.range (days b e).length).filterMap (fun (j : Nat) => ((days b e)[j]?).map fun d => if soldB rs d = true then V.int (numI rs .price d) else V.non) = (days b e).map fun d => if soldB rs d = true then V.int (numI rs .price d) else V.non := by
    have : (fun (j : Nat) => ((days b e)[j]?).map fun d => if soldB rs d = true then V.int (numI rs .price d) else V.non) = fun (j : Nat) => ((days b e)[j]?).bind fun d => some (if soldB rs d = true then V.int (numI rs .price d) else V.non) := by
      funext j
      cases (days b e)[j]? <;> rfl
    rw [this, range_flt (days b e) fun d => some (if soldB rs d = true then V.int (numI rs .price d) else V.non)]
    simp
  rw [ek] at h3
  dsimp only [List.set]
  walk_at "st"
  have eIn : inV V.non ((days b e).map fun d => if soldB rs d = true then V.int (numI rs .price d) else V.non) = (days b e).any fun d => !soldB rs d := by
    unfold inV
    rw [List.any_map]
    congr 1
    funext d
    simp only [Function.comp]
    cases soldB rs d <;> rfl
  have fl : ((days b e).map fun d => if soldB rs d = true then V.int (numI rs .price d) else V.non).all flatV = true := by
    rw [List.all_map, List.all_eq_true]
    intro d _
    simp only [Function.comp]
    cases soldB rs d <;> rfl
  refine ⟨D, _, rfl, .inl (SqL.of h3), rfl, fl, ?_⟩
  rw [eIn]
  cases hs : (days b e).any fun d => !soldB rs d with
  | true =>
    walk_at "st"
    obtain ⟨d, hd, hz⟩ := List.any_eq_true.mp hs
    exact no s03 (ns d hd (by simpa using hz))
  | false =>
  have sold : ∀ d ∈ days b e, soldB rs d = true := fun d hd => by
    have := List.any_eq_false.mp hs d hd
    simpa using this
  have ep : ((days b e).map fun d => if soldB rs d = true then V.int (numI rs .price d) else V.non) = (pricesL rs b e).map V.int := by
    unfold pricesL
    rw [List.map_map]
    exact List.map_congr_left fun d hd => by rw [if_pos (sold d hd)]; rfl
  rw [ep] at h3
  clear ep fl eIn ek hs
  walk_at "st"
  refine ite_f (by decide) ?_
  dsimp only [List.set]
  walk_at "st"
  refine g_Ltells h3p R3 rfl fun v4 H4 s4 t4 => ?_
  obtain rfl := come_b gd (.inl rfl) t4
  rw [hc]
  have h4 := s4 _ _ h3
  have h4p := s4 _ _ h3p
  have R4 := ru_same s4 R3
  have s04 := s03.trans s4
  walk_at "st"
  refine g_Ltells h4p R4 rfl fun v5 H5 s5 t5 => ?_
  obtain rfl := come_b gd (.inr rfl) t5
  have h5 := s5 _ _ h4
  have h5p := s5 _ _ h4p
  have R5 := ru_same s5 R4
  have s05 := s04.trans s5
  cases hg : comeB rs .go e with
  | false =>
    walk_at "st"
    exact no s05 (by unfold hadB; rw [hg, Bool.false_and, Bool.and_false, Bool.and_false, Bool.and_false])
  | true =>
  walk_at "st"
  refine g_Ltells h5p R5 rfl fun v6 H6 s6 t6 => ?_
  obtain ⟨rfl, l0, l1⟩ := num_n gd (.inl rfl) t6
  have h6 := s6 _ _ h5
  have h6p := s6 _ _ h5p
  have R6 := ru_same s6 R5
  have s06 := s05.trans s6
  walk_at "st"
  refine ite_d (fun zl => ?_) fun zl => ?_
  · walk_at "st"
    refine g_Ltells h6p R6 rfl fun v7 H7 s7 t7 => ?_
    obtain ⟨rfl, m0, m1⟩ := num_n gd (.inr rfl) t7
    have h7 := s7 _ _ h6
    have h7p := s7 _ _ h6p
    have R7 := ru_same s7 R6
    have s07 := s06.trans s7
    walk_at "st"
    by_cases zm : e - b ≤ numI rs .most b
    · rw [decide_eq_true zm]
      have had : hadB rs b e = true := by
        unfold hadB
        rw [decide_eq_true zl, decide_eq_true zm, hc, hg]
        exact List.all_eq_true.mpr sold
      walk_at "st"
      refine g_Ltells h7p R7 rfl fun v8 H8 s8 t8 => ?_
      obtain ⟨rfl, f0, f1⟩ := num_f gd t8
      have h8 := s8 _ _ h7
      have h8p := s8 _ _ h7p
      have R8 := ru_same s8 R7
      have s08 := s07.trans s8
      walk_at "st"
      refine g_Ltells h8p R8 rfl fun v9 H9 s9 t9 => ?_
      have da := deal_at gd t9
      have h9 := s9 _ _ h8
      have s09 := s08.trans s9
      have res := fun {H'} s => yes (H' := H') s had
      rw [sum_eq] at res
      have pl : (pricesL rs b e).length ≤ 14 := by unfold pricesL; rw [List.length_map, days_len]; omega
      clear yes no had R8 h8p h8 s8 s08 t8 R7 h7p h7 s7 s07 R6 h6p h6 s6 s06 R5 h5p h5 s5 s05 R4 h4p h4 s4 s04 s03 h3 h3p R3 s3 t9 t4 t5 t6 t7 sold nc ns days0 h2 R2 s02 R h
      generalize pricesL rs b e = ps0 at *
      generalize dealO rs b = dl at *
      generalize numI rs .fee b = fee at *
      dsimp only [List.set]
      walk_at "st"
      refine while_m (fun m σ H' => ∃ (q : Addr) (ps : List Int) (tot : Int) (v7 v8 : Option V), σ = [some (.ref p), some (.int b), some (.int e), some (.int (e - b)), some (.ref q), some (.int tot), some v9, v7, v8] ∧ Same H9 H' ∧ H' q = some (.lst (ps.map V.int)) ∧ tot + paidS ps dl = fee + paidS ps0 dl ∧ ps.length ≤ 14 ∧ m = ps.length)
        ⟨D, ps0, fee, _, _, rfl, Same.refl _, h9, rfl, pl, rfl⟩ ?_ ?_
      · rintro m σ H' ⟨q, ps, tot, u7, u8, rfl, sm, hq, et, l14, rfl⟩
        match dl, da with
        | none, da =>
          have da : v9 = .non := da
          subst da
          rw [paid_bare] at et
          walk_at "st"
          refine ite_f (by decide) ?_
          walk_at "st"
          refine g_sum (SqL.of hq) ?_
          walk_at "st"
          rw [et]
          exact res (s09.trans sm)
        | some (m, f), da =>
          obtain ⟨⟨t, rfl, ht⟩, m0, m1, f0'⟩ := da
          have ht1 := sm _ _ ht
          dsimp only at m0 m1 f0' ht1
          walk_at "st"
          refine ite_t (by simp) ?_
          walk_at "st"
          rw [List.length_map]
          refine ite_d (fun z => ?_) fun z => ?_
          · walk_at "st"
            rename_i p1 hp1
            refine ⟨p1, ps.take m.toNat, rfl, SqL.of (by rw [upd_same, List.map_take]), fun ns p2 pm so hp2 => ?_⟩
            replace hp2 : Fr (upd H' p1 (.lst ((ps.map V.int).take m.toNat))) p2 := hp2
            have s2 : Same H' (upd (upd H' p1 (.lst ((ps.map V.int).take m.toNat))) p2 (.lst (ns.map V.int))) := (same_new hp1).trans (same_new hp2)
            have hn : (upd (upd H' p1 (.lst ((ps.map V.int).take m.toNat))) p2 (.lst (ns.map V.int))) p2 = some (.lst (ns.map V.int)) := upd_same
            generalize upd (upd H' p1 (.lst ((ps.map V.int).take m.toNat))) p2 (.lst (ns.map V.int)) = G at s2 hn ⊢
            have ht2 := s2 _ _ ht1
            have hq2 := s2 _ _ hq
            clear hp1 hp2
            walk_at "st"
            rename_i p3 hp3 p4 hp4
            refine g_sum (ns := ns.drop f.toNat) (SqL.of (by rw [upd_same, List.map_drop])) ?_
            walk_at "st"
            have pb := paid_bundle (d := (m, f)) (by show 0 < m.toNat; omega) (by show m.toNat ≤ ps.length; omega) pm so
            refine ⟨(ps.drop m.toNat).length, by rw [List.length_drop]; omega, p3, ps.drop m.toNat, tot + (ns.drop f.toNat).sum, _, _, rfl, sm_new hp4 (sm_new hp3 (sm.trans s2)), at_new hp4 (by rw [upd_same, List.map_drop]), ?_, by rw [List.length_drop]; omega, rfl⟩
            rw [← et, pb]
            dsimp only
            omega
          · walk_at "st"
            refine g_sum (SqL.of hq) ?_
            walk_at "st"
            rw [paid_short (by show ps.length < m.toNat; omega)] at et
            rw [et]
            exact res (s09.trans sm)
      · intro σ H Q Q' h q
        obtain ⟨v, hv, e1, k, e2, r⟩ := q
        refine ⟨v, hv, e1, k, e2, ?_⟩
        cases k with
        | false => exact h _ _ r
        | true =>
          obtain ⟨w, hw, p, ys, e3, sq, k, e4, t, us, i, v9, e5, e6, sq2, ai, i1, i2, e7, e8, k2, e9, r⟩ := r
          exact ⟨w, hw, p, ys, e3, sq, k, e4, t, us, i, v9, e5, e6, sq2, ai, i1, i2, e7, e8, k2, e9, h _ _ r⟩
    · rw [decide_eq_false zm]
      walk_at "st"
      exact no s07 (by unfold hadB; rw [decide_eq_false zm, Bool.false_and, Bool.and_false])
  · walk_at "st"
    exact no s06 (by unfold hadB; rw [decide_eq_false zl, Bool.false_and])
/-! YCm: the law's days of coming, and the first of the shortest stays unlike (k67). -/
open PySem PySem.Spec PyProof.Rows L2
/-- the days of coming near which stays of n nights may turn, as the law gathers them -/
def edgeX (x : Int) (n : Nat) : List Int := (List.range (n + 1)).map fun (k : Nat) => x - n + k
def edgeR (rs : List RuleD) (n : Nat) : List Int := rs.flatMap fun r => [r.f, r.l + 1].flatMap fun x => edgeX x n
theorem edge_snoc (rs : List RuleD) (r : RuleD) (n : Nat) : edgeR (rs ++ [r]) n = edgeR rs n ++ [r.f, r.l + 1].flatMap fun x => edgeX x n := by
  unfold edgeR
  simp
theorem edgeX_len (x : Int) (n : Nat) : (edgeX x n).length = n + 1 := by simp [edgeX]
theorem edge_len (rs : List RuleD) (n : Nat) : (edgeR rs n).length = rs.length * (2 * (n + 1)) := by
  induction rs with
  | nil => simp [edgeR]
  | cons r rs ih =>
    have e : edgeR (r :: rs) n = ([r.f, r.l + 1].flatMap fun x => edgeX x n) ++ edgeR rs n := rfl
    rw [e, List.length_append, ih, List.length_cons, Nat.add_mul]
    simp [edgeX_len]
    omega
theorem back_in {w : Wd} {n : Nat} {b : Int} (h : b ∈ backR w n) : 0 ≤ b ∧ b ≤ n := by
  unfold backR at h
  split at h
  · obtain ⟨i, hi, rfl⟩ := List.mem_map.mp h
    have := List.mem_range.mp hi
    omega
  · rw [List.mem_singleton.mp h]; omega
  · rw [List.mem_singleton.mp h]; omega
theorem edge_sub {rs : List RuleD} {n : Nat} {c : Int} (h : c ∈ comeR rs n) : c ∈ edgeR rs n := by
  obtain ⟨r, hr, h⟩ := List.mem_flatMap.mp h
  obtain ⟨x, hx, h⟩ := List.mem_flatMap.mp h
  obtain ⟨b, hb, rfl⟩ := List.mem_map.mp h
  have := back_in hb
  refine List.mem_flatMap.mpr ⟨r, hr, List.mem_flatMap.mpr ⟨x, hx, List.mem_map.mpr ⟨(n - b).toNat, List.mem_range.mpr (by omega), by omega⟩⟩⟩
def sp_Lcomes (K : PySem.W.Frag) : Sp := Sp2 fun x y H Q E => ∃ (p pa pb : Addr) (xs ys : List V) (rs ss : List RuleD) (n : Nat), x = .ref p ∧ y = .int (n : Nat) ∧ SqL K H p [.ref pa, .ref pb] ∧ H pa = some (.lst xs) ∧ H pb = some (.lst ys) ∧ Rus H xs rs ∧ Rus H ys ss ∧ rs.length ≤ 24 ∧ ss.length ≤ 24 ∧ n ≤ 14 ∧
  ∀ (L : List Int) (l : Addr) (H' : Hp), Same H H' → Fr H l → H' l = some (.lst (L.map V.int)) → ComesOk L rs ss n → Q (.ref l) H'
theorem g_Lcomes {K : PySem.W.Frag} {p pa pb : Addr} {xs ys : List V} {rs ss : List RuleD} {n : Nat} {H : Hp} {Q : VK} {E : XK} (h : SqL K H p [.ref pa, .ref pb]) (ha : H pa = some (.lst xs)) (hb : H pb = some (.lst ys)) (R1 : Rus H xs rs) (R2 : Rus H ys ss) (l1 : rs.length ≤ 24) (l2 : ss.length ≤ 24) (hn : n ≤ 14)
    (q : ∀ (L : List Int) (l : Addr) (H' : Hp), Same H H' → Fr H l → H' l = some (.lst (L.map V.int)) → ComesOk L rs ss n → Q (.ref l) H') : sp_Lcomes K ([.ref p, .int (n : Nat)] ++ []) H Q E :=
  ⟨_, _, rfl, p, pa, pb, xs, ys, rs, ss, n, rfl, rfl, h, ha, hb, R1, R2, l1, l2, hn, q⟩
def sp_Ldue (K : PySem.W.Frag) : Sp := Sp2 fun x y H Q E => ∃ (pa pb : Addr) (xs ys : List V) (rs ss : List RuleD), x = .ref pa ∧ y = .ref pb ∧ H pa = some (.lst xs) ∧ H pb = some (.lst ys) ∧ Rus H xs rs ∧ Rus H ys ss ∧ (∀ r ∈ rs, RuleD.good r) ∧ (∀ r ∈ ss, RuleD.good r) ∧ rs.length ≤ 24 ∧ ss.length ≤ 24 ∧ QAp rs ss H Q
theorem g_Ldue {K : PySem.W.Frag} {pa pb : Addr} {xs ys : List V} {rs ss : List RuleD} {H : Hp} {Q : VK} {E : XK} (ha : H pa = some (.lst xs)) (hb : H pb = some (.lst ys)) (R1 : Rus H xs rs) (R2 : Rus H ys ss) (g1 : ∀ r ∈ rs, RuleD.good r) (g2 : ∀ r ∈ ss, RuleD.good r) (l1 : rs.length ≤ 24) (l2 : ss.length ≤ 24) (q : QAp rs ss H Q) : sp_Ldue K ([.ref pa, .ref pb] ++ []) H Q E :=
  ⟨_, _, rfl, pa, pb, xs, ys, rs, ss, rfl, rfl, ha, hb, R1, R2, g1, g2, l1, l2, q⟩
def t_Lcomes (K : PySem.W.Frag) : TS :=
  (tSeq (tAsg (tLst (tCons (tC (.int 0)) tNil)) (gName 2))
  (tSeq (tFor (iList K (tVar 0)) (gName 3)
  (tFor (iList K (tVar 3)) (gTup K 4 (gCons (gName 4) (gCons (gName 5) (gCons (gName 6) (gCons (gName 7) gNil)))))
  (tFor (iTup K (tTup (tCons (tVar 5) (tCons (tOp rAdd (tVar 6) (tC (.int 1))) tNil)))) (gName 8)
  (tDrop (tBM K "list" rExtend (tVar 2) (tCons (tLc (iRng1 (tCons (tOp rAdd (tVar 1) (tC (.int 1))) tNil)) (gName 10) tYes (tOp rAdd (tOp rSub (tVar 8) (tVar 1)) (tVar 10)) [10]) tNil))))))
  (tRet (tLc (iList K (Y.tSortSet K (tVar 2))) (gName 9) (tTest (tChain rLe rLe (tC (.int 0)) (tVar 9) (tOp rSub (tOp rPow (tC (.int 10)) (tC (.int 6))) (tVar 1)))) (tVar 9) [9]))))
theorem pure_Lcomes {K : PySem.W.Frag} {x y : V} {H : Hp} {Q : VK} {E : XK} (h : sp_Lcomes K [x, y] H Q E) : t_Lcomes K { nx := fun _ H' => Q .non H', rt := Q } [some x, some y, none, none, none, none, none, none, none, none, none] H := by
  obtain ⟨x, y, e, p, pa, pb, xs0, ys0, rs, ss, n, rfl, rfl, hp, ha, hb, R1, R2, l1, l2, hn, q⟩ := h
  cases e
  unfold t_Lcomes
  have cb24 : ∀ ts : List RuleD, ts.length ≤ 24 → (edgeR ts n).length ≤ 720 := fun ts h => by
    rw [edge_len]
    exact Nat.le_trans (Nat.mul_le_mul h (show 2 * (n + 1) ≤ 30 by omega)) (by decide)
  walk_at "ss"
  rename_i l hl
  refine for_list (K := K) (a := p) (xs := [.ref pa, .ref pb]) (fun i σ H' => ∃ v3 v4 v5 v6 v7 v8, σ = [some (.ref p), some (.int (n : Nat)), some (.ref l), v3, v4, v5, v6, v7, v8, none, none] ∧ Same H H' ∧ H' l = some (.lst ((0 :: (([rs, ss].take i).flatMap fun ts => edgeR ts n)).map V.int))) ⟨_, _, _, _, _, _, rfl, same_new hl, upd_same⟩ (fun i σ H' _ h => by obtain ⟨_, _, _, _, _, _, _, h, _⟩ := h; exact sql_same h hp) ?_ ?_
  · rintro i x σ H1 hi ⟨v3, v4, v5, v6, v7, v8, rfl, s1, h1⟩
    obtain ⟨ts, q2, ys, hts, rfl, h2', r2', lt, et⟩ : ∃ ts q2 ys, [rs, ss][i]? = some ts ∧ x = .ref q2 ∧ H q2 = some (.lst ys) ∧ Rus H ys ts ∧ ts.length ≤ 24 ∧ ((([rs, ss].take i).flatMap fun ts => edgeR ts n)).length ≤ 720 := by
      match i, hi with
      | 0, hi => cases hi; exact ⟨rs, pa, xs0, rfl, rfl, ha, R1, l1, by simp⟩
      | 1, hi => cases hi; exact ⟨ss, pb, ys0, rfl, rfl, hb, R2, l2, by simpa using cb24 rs l1⟩
    have h2 := s1 _ _ h2'
    have r2 := ru_same s1 r2'
    have nlq : l ≠ q2 := (ne_of_none h2' hl).symm
    clear h2' r2'
    generalize hpre : (([rs, ss].take i).flatMap fun ts => edgeR ts n) = pre at h1 et
    have yl := ru_len r2
    walk_at "ss"
    refine for_list (K := K) (a := q2) (xs := ys) (fun j σ H' => ∃ v4 v5 v6 v7 v8, σ = [some (.ref p), some (.int (n : Nat)), some (.ref l), some (.ref q2), v4, v5, v6, v7, v8, none, none] ∧ Same H H' ∧ H' l = some (.lst ((0 :: (pre ++ edgeR (ts.take j) n)).map V.int)) ∧ H' q2 = some (.lst ys) ∧ Rus H' ys ts) ⟨_, _, _, _, _, rfl, s1, by simpa [edgeR] using h1, h2, r2⟩ (fun i σ H' _ h => by obtain ⟨_, _, _, _, _, _, _, _, h, _⟩ := h; exact SqL.of h) ?_ ?_
    · clear s1 h1 h2 r2
      rintro j y σ H3 hj ⟨v4, v5, v6, v7, v8, rfl, s3, h3, h4, r3⟩
      obtain ⟨r, hr, ⟨a, wv, rfl, ha', hw⟩⟩ := Paired.getL r3 hj
      have ht := cb24 (ts.take j) (by rw [List.length_take]; omega)
      have e1 : ts.take (j + 1) = ts.take j ++ [r] := by rw [List.take_add_one, hr]; rfl
      rw [e1, edge_snoc]
      generalize edgeR (ts.take j) n = done at h3 ht
      walk_at "ss"
      rename_i tp htp
      have nlt : l ≠ tp := ne_of_none h3 htp
      have nqt : q2 ≠ tp := ne_of_none h4 htp
      refine for_tup (K := K) (a := tp) (xs := [.int r.f, .int (r.l + 1)]) (fun k σ H' => ∃ v8, σ = [some (.ref p), some (.int (n : Nat)), some (.ref l), some (.ref q2), some (.str r.w.word), some (.int r.f), some (.int r.l), some wv, v8, none, none] ∧ Same H H' ∧ H' l = some (.lst ((0 :: (pre ++ (done ++ ([r.f, r.l + 1].take k).flatMap fun x => edgeX x n))).map V.int)) ∧ H' q2 = some (.lst ys) ∧ Rus H' ys ts ∧ H' tp = some (.tup [.int r.f, .int (r.l + 1)])) ⟨_, rfl, sm_new htp s3, by simpa using at_new htp h3, at_new htp h4, ru_new htp r3, upd_same⟩ (fun i σ H' _ h => by obtain ⟨_, _, _, _, _, _, h⟩ := h; exact SqT.of h) ?_ ?_
      · clear s3 h3 h4 r3
        rintro k xv σ H4 hk ⟨v8, rfl, s4, h5, h6, r4, ht4⟩
        obtain ⟨d, rfl, hd, lk⟩ : ∃ d, xv = .int d ∧ [r.f, r.l + 1][k]? = some d ∧ (([r.f, r.l + 1].take k).flatMap fun x => edgeX x n).length ≤ 15 := by
          match k, hk with
          | 0, hk => cases hk; exact ⟨_, rfl, rfl, by simp⟩
          | 1, hk => cases hk; exact ⟨_, rfl, rfl, by simp [edgeX_len]; omega⟩
        have ek : ([r.f, r.l + 1].take (k + 1)).flatMap (fun x => edgeX x n) = ([r.f, r.l + 1].take k).flatMap (fun x => edgeX x n) ++ edgeX d n := by
          rw [List.take_add_one, hd]
          simp
        rw [ek]
        generalize ([r.f, r.l + 1].take k).flatMap (fun x => edgeX x n) = half at h5 lk
        walk_at "ss"
        refine lc_w (f := fun j => some (V.int (d - n + j))) walk_range (by omega) (fun _ _ => trivial) ?_ ?_
        · rintro D j xj H6 H7 N hD hj s6 ⟨rfl, rfl⟩ hy hn2
          walk_at "ss"
          have := hy _ _ rfl (Same.refl _)
          rw [Int.zero_add]
          exact this
        intro D H6 hD s6 h7
        have ez : (List.range ((n : Int) + 1 - 0).toNat).filterMap (fun (j : Nat) => some (V.int (d - n + j))) = (edgeX d n).map V.int := by
          rw [show ((n : Int) + 1 - 0).toNat = n + 1 by omega]
          unfold edgeX
          rw [List.map_map]
          exact congrFun (List.filterMap_eq_map (f := fun (j : Nat) => V.int (d - n + j))) _
        have ez' : (List.range ((n : Int) + 1).toNat).filterMap (fun (j : Nat) => some (V.int (d - n + j))) = (edgeX d n).map V.int := by
          rw [← ez, Int.sub_zero]
        first | rw [ez] at h7 | rw [ez'] at h7
        have h56 := s6 _ _ h5
        have nlD : l ≠ D := ne_of_none h5 hD
        have xl := edgeX_len d n
        walk_at "ss"
        refine ⟨_, rfl, sm_own hl (s4.trans s6), ?_, at_ne nlq.symm (s6 _ _ h6), ru_put h56 (ru_same s6 r4), at_ne nlt.symm (s6 _ _ ht4)⟩
        rw [upd_same]
        simp
      · rintro σ H4 ⟨v8, rfl, s4, h5, h6, r4, ht4⟩
        walk_at "ss"
        exact ⟨_, _, _, _, _, rfl, s4, by simpa using h5, h6, r4⟩
    · rintro σ H3 ⟨v4, v5, v6, v7, v8, rfl, s3, h3, h4, r3⟩
      walk_at "ss"
      refine ⟨_, _, _, _, _, _, rfl, s3, ?_⟩
      rw [List.take_of_length_le (show ts.length ≤ ys.length by omega)] at h3
      rw [h3, List.take_add_one, hts, List.flatMap_append, hpre]
      simp
  · rintro σ H1 ⟨v3, v4, v5, v6, v7, v8, rfl, s1, h1⟩
    have e2 : ([rs, ss].take [V.ref pa, V.ref pb].length).flatMap (fun ts => edgeR ts n) = edgeR rs n ++ edgeR ss n := by simp
    rw [e2] at h1
    have k1 := cb24 rs l1
    have k2 := cb24 ss l2
    walk_at "ss"
    refine g_sortSet rfl (SqL.of h1) ?_ fun out p2 hp2 up lo mem => ?_
    · simp
      omega
    walk_at "ss"
    refine lc_r (walk_list (K := K) (a := p2) (xs := out.map V.int)) (fun _ v (d : Int) => v = V.int d) (fun _ _ _ _ _ h => h) (fun i => (out[i]?).bind fun d => if 0 ≤ d ∧ d ≤ 1000000 - n then some d else none) (by rw [List.length_map]; simp at lo; omega) (fun H' s => SqL.of (s _ _ upd_same)) ?_ ?_
    · rintro D j x0 H4 H5 N hD hj s4 ⟨rfl, hx⟩ hy hn2
      obtain ⟨d, rfl, hd⟩ := map_get hx
      rw [hd, Option.bind_some] at hy hn2
      walk_at "ss"
      refine ite_d (fun z0 => ?_) fun z0 => ?_
      · walk_at "ss"
        refine ite_d (fun z => ?_) fun z => ?_
        · walk_at "ss"
          exact hy _ _ _ (if_pos ⟨z0, z⟩) (Same.refl _) rfl
        · exact hn2 _ (if_neg fun y => z y.2) (Same.refl _)
      · refine ⟨_, rfl, ?_⟩
        exact hn2 _ (if_neg fun y => z0 y.1) (Same.refl _)
    intro D H4 zs hD s4 h4 r4
    rw [List.length_map, range_flt out (fun d => if 0 ≤ d ∧ d ≤ 1000000 - n then some d else none), flt_rng] at r4
    have ez := paired_int r4
    subst ez
    walk_at "ss"
    refine q _ D H4 ((sm_new hp2 s1).trans s4) (fr_of (fr_new hD) s1) h4 ?_
    refine ⟨(up.imp fun h => Int.le_of_lt h).filter _, List.mem_filter.mpr ⟨(mem 0).mpr (by simp), by simp; omega⟩, fun c hc => ?_, fun c hc h0 h1 => ?_⟩
    · have := (List.mem_filter.mp hc).2
      simpa using this
    · refine List.mem_filter.mpr ⟨(mem c).mpr (List.mem_cons_of_mem _ ?_), by simp [h0, h1]⟩
      rcases List.mem_append.mp hc with h | h
      · exact List.mem_append_left _ (edge_sub h)
      · exact List.mem_append_right _ (edge_sub h)
def t_Ldue (K : PySem.W.Frag) : TS :=
  (tSeq (tFor (iRng2 (tCons (tC (.int 1)) (tCons (tC (.int 15)) tNil))) (gName 2)
  (tFor (iList K (tCall (sp_Lcomes K) [] E0 (tCons (tLst (tCons (tVar 0) (tCons (tVar 1) tNil))) (tCons (tVar 2) tNil)))) (gName 3)
  (tSeq (tAsg (tCall (sp_Lprice K) [] E0 (tCons (tVar 0) (tCons (tVar 3) (tCons (tOp rAdd (tVar 3) (tVar 2)) tNil)))) (gName 4))
  (tSeq (tAsg (tCall (sp_Lprice K) [] E0 (tCons (tVar 1) (tCons (tVar 3) (tCons (tOp rAdd (tVar 3) (tVar 2)) tNil)))) (gName 5))
  (tIfS (tTest (tOp (rNeD K) (tVar 4) (tVar 5)))
  (tRet (tTup (tCons (tTup (tCons (tVar 3) (tCons (tOp rAdd (tVar 3) (tVar 2)) tNil))) (tCons (tVar 4) (tCons (tVar 5) tNil)))))
  tNext)))))
  (tRet (tC .non)))
theorem pure_Ldue {K : PySem.W.Frag} {x y : V} {H : Hp} {Q : VK} {E : XK} (h : sp_Ldue K [x, y] H Q E) : t_Ldue K { nx := fun _ H' => Q .non H', rt := Q } [some x, some y, none, none, none, none] H := by
  obtain ⟨x, y, e, pa, pb, xs0, ys0, rs, ss, rfl, rfl, ha, hb, R1, R2, g1, g2, l1, l2, q1, q2⟩ := h
  cases e
  unfold t_Ldue
  walk_at "ss"
  refine for_range (lo := 1) (n := 14) (fun i σ H' => ∃ v3 v4 v5 v6, σ = [some (.ref pa), some (.ref pb), v3, v4, v5, v6] ∧ Same H H' ∧ ∀ n ∈ ((List.range 14).map (· + 1)).take i, (leastO (1000001 - n) (unlikeB rs ss n)).map (fun c => (n, c)) = none) ⟨_, _, _, _, rfl, Same.refl _, by simp⟩ ?_ ?_
  · rintro i σ H2 hi ⟨v3, v4, v5, v6, rfl, s2, no⟩
    have hni : ((List.range 14).map (· + 1))[i]? = some (i + 1) := by rw [List.getElem?_map, List.getElem?_range hi]; rfl
    walk_at "ss"
    rename_i p hp
    have en : (1 : Int) + (i : Int) = ((i + 1 : Nat) : Int) := by omega
    rw [en]
    have sp := (same_new (o := .lst [V.ref pa, V.ref pb]) hp)
    have s2p := s2.trans sp
    refine g_Lcomes (SqL.of upd_same) (s2p _ _ ha) (s2p _ _ hb) (ru_same s2p R1) (ru_same s2p R2) l1 l2 (by omega) fun L l H3 s3 fl hL ok => ?_
    have s23 := sp.trans s3
    walk_at "ss"
    refine for_list (K := K) (a := l) (xs := L.map V.int) (fun j σ H' => ∃ v4 v5 v6, σ = [some (.ref pa), some (.ref pb), some (.int ((i + 1 : Nat) : Int)), v4, v5, v6] ∧ Same H H' ∧ H' l = some (.lst (L.map V.int)) ∧ ∀ c ∈ L.take j, unlikeB rs ss (i + 1) c = false) ⟨_, _, _, rfl, s2.trans s23, hL, by simp⟩ (fun i σ H' _ h => by obtain ⟨_, _, _, _, _, h, _⟩ := h; exact SqL.of h) ?_ ?_
    · clear s2 s3 s23 hL hp fl s2p sp
      rintro j cv σ H4 hj ⟨v4, v5, v6, rfl, s4, h4, nd⟩
      obtain ⟨c, rfl, hc⟩ := map_get hj
      have hr := ok.rng c (List.mem_of_getElem? hc)
      walk_at "ss"
      refine g_Lprice (s4 _ _ ha) (ru_same s4 R1) g1 ⟨by omega, by omega, by omega, by omega⟩ fun H5 s5 => ?_
      have s45 := s4.trans s5
      walk_at "ss"
      refine g_Lprice (s45 _ _ hb) (ru_same s45 R2) g2 ⟨by omega, by omega, by omega, by omega⟩ fun H6 s6 => ?_
      have s46 := s45.trans s6
      walk_at "ss"
      refine g_neD_co ?_
      refine ⟨_, rfl, ?_⟩
      refine ite_b (fun z => ?_) fun z => ?_
      · walk_at "ss"
        rename_i st hst p9 hp9
        have e : apO rs ss = some (i + 1, c) := by
          unfold apO
          refine find_first hni no ?_
          rw [← ok.find (by omega), find_getI hc nd z]
          rfl
        exact q2 (i + 1) c e p9 st _ (sm_new hp9 (sm_new hst s46)) (fr_of hp9 (sm_new hst s46)) (fr_of hst s46) upd_same (at_new hp9 upd_same)
      · walk_at "ss"
        refine ⟨_, _, _, rfl, s46, (s5.trans s6) _ _ h4, fun c' hc' => ?_⟩
        rw [List.take_add_one, hc] at hc'
        rcases List.mem_append.mp hc' with h | h
        · exact nd c' h
        · obtain rfl := List.mem_singleton.mp h
          exact z
    · rintro σ H4 ⟨v4, v5, v6, rfl, s4, h4, nd⟩
      walk_at "ss"
      refine ⟨_, _, _, _, rfl, s4, fun n' hn' => ?_⟩
      rw [List.take_add_one, hni] at hn'
      rcases List.mem_append.mp hn' with h | h
      · exact no n' h
      · obtain rfl := List.mem_singleton.mp h
        rw [List.length_map, List.take_length] at nd
        rw [← ok.find (by omega), List.find?_eq_none.mpr fun d hd => by rw [nd d hd]; decide]
        rfl
  · rintro σ H2 ⟨v3, v4, v5, v6, rfl, s2, no⟩
    walk_at "ss"
    exact q1 (List.findSome?_eq_none_iff.mpr fun n hn => no n (by rw [List.take_of_length_le (by simp)]; exact hn)) _ s2
/-! YLw: two books drawn (k67). -/
open PySem PySem.Spec PyProof.Rows L2
def Q2R (t s : Addr) (H : Hp) (Q : VK) : Prop := ∀ (p pa pb : Addr) (xs ys : List V) (rs ss : List RuleD) (H' : Hp), Tape H' t t s → Kp [t, t] H H' → Fr H pa → Fr H pb → H' p = some (.tup [.ref pa, .ref pb]) → H' pa = some (.lst xs) → H' pb = some (.lst ys) → Rus H' xs rs → Rus H' ys ss → (∀ r ∈ rs, RuleD.good r) → (∀ r ∈ ss, RuleD.good r) → rs.length ≤ 12 → ss.length ≤ 12 → Q (.ref p) H'
def sp_Llong (K : PySem.W.Frag) : Sp := Sp2 fun x y H Q E => ∃ (t s : Addr) (m : Int), x = .ref t ∧ y = .int m ∧ Tape H t t s ∧ 0 ≤ m ∧ m ≤ 1000000 ∧ Q2R t s H Q
theorem g_Llong {K : PySem.W.Frag} {t s : Addr} {m : Int} {H : Hp} {Q : VK} {E : XK} (T : Tape H t t s) (h0 : 0 ≤ m) (h1 : m ≤ 1000000) (q : Q2R t s H Q) : sp_Llong K ([.ref t, .int m] ++ []) H Q E := ⟨_, _, rfl, t, s, m, rfl, rfl, T, h0, h1, q⟩
def sp_Ltwo (K : PySem.W.Frag) : Sp := Sp2 fun x y H Q E => ∃ (t s : Addr) (m : Int), x = .ref t ∧ y = .int m ∧ Tape H t t s ∧ 0 ≤ m ∧ m ≤ 1000000 ∧ Q2R t s H Q
theorem g_Ltwo2 {K : PySem.W.Frag} {t s : Addr} {m : Int} {H : Hp} {Q : VK} {E : XK} (T : Tape H t t s) (h0 : 0 ≤ m) (h1 : m ≤ 1000000) (q : Q2R t s H Q) : sp_Ltwo K ([.ref t, .int m] ++ []) H Q E := ⟨_, _, rfl, t, s, m, rfl, rfl, T, h0, h1, q⟩
def hidF (i : Nat) : RuleD := ⟨.fee, 400000 + 3 * (i : Int), 400000 + 3 * (i : Int), .int (1 + i)⟩
def hidP (fi : Int) (i : Nat) : RuleD := ⟨.price, fi, fi + 13, .int i⟩
/-- a list of at most one rule, apart from a row of draws -/
def FewAt (t : Addr) (G : Hp) (v : V) : Prop := ∃ (a : Addr) (xs : List V) (rs : List RuleD), v = .ref a ∧ a ∉ [t, t] ∧ G a = some (.lst xs) ∧ Rus G xs rs ∧ (∀ r ∈ rs, RuleD.good r) ∧ rs.length ≤ 1
theorem FewAt.kp {t s : Addr} {G G' : Hp} {v : V} (k : Kp [t, t] G G') (T : Tape G t t s) (h : FewAt t G v) : FewAt t G' v :=
  let ⟨a, xs, rs, e, n, h, r, g, l⟩ := h
  ⟨a, xs, rs, e, n, k _ _ h n, ru_kp k T r, g, l⟩
theorem gd_one {r : RuleD} (h : r.good) : ∀ x ∈ [r], RuleD.good x := fun x hx => by rw [List.mem_singleton.mp hx]; exact h
theorem gd_night {w : Wd} (hw : w = .least ∨ w = .most) {f n : Int} (h0 : 0 ≤ f) (h1 : f ≤ 1000000) (n0 : 1 ≤ n) (n1 : n ≤ 14) : RuleD.good ⟨w, f, f, .int n⟩ := by
  refine ⟨h0, Int.le_refl _, h1, ?_⟩
  have : isNights (.int n) = true := by
    show (decide (1 ≤ n) && decide (n ≤ 14)) = true
    rw [decide_eq_true n0, decide_eq_true n1]; rfl
  rcases hw with rfl | rfl <;> exact this
theorem gd_fee {f n : Int} (h0 : 0 ≤ f) (h1 : f ≤ 1000000) (n0 : 0 ≤ n) (n1 : n ≤ 1000000000000) : RuleD.good ⟨.fee, f, f, .int n⟩ := ⟨h0, Int.le_refl _, h1, coins_ok n0 n1⟩
theorem gd_price {f l n : Int} (h0 : 0 ≤ f) (h : f ≤ l) (h1 : l ≤ 1000000) (n0 : 0 ≤ n) (n1 : n ≤ 1000000000000) : RuleD.good ⟨.price, f, l, .int n⟩ := ⟨h0, h, h1, by
  show (isNone (.int n) || isCoins (.int n)) = true
  rw [coins_ok n0 n1]; rfl⟩
def t_Llong (K : PySem.W.Frag) : TS :=
  (tSeq (tAsg (tCB rMin2 (tCons (tOp rSub (tOp rPow (tC (.int 10)) (tC (.int 6))) (tC (.int 14))) (tCons (tCB rMax2 (tCons (tC (.int 0)) (tCons (tOp rSub (tVar 1) (tC (.int 2))) tNil))) tNil))) (gName 2))
  (tSeq (tAsg (tLst (tCons (tTup (tCons (tC (.str "price")) (tCons (tVar 2) (tCons (tOp rAdd (tVar 2) (tC (.int 13))) (tCons (tOp rAdd (tCall (sp_Ltake K) [] E0 (tCons (tVar 0) (tCons (tC (.int 3)) tNil))) (tC (.int 4))) tNil))))) tNil)) (gName 3))
  (tSeq (tAsg (tOp rAdd (tVar 2) (tCall (sp_Ltake K) [] E0 (tCons (tVar 0) (tCons (tC (.int 4)) tNil)))) (gName 4))
  (tSeq (tAsg (tLst (tCons (tLst (tCons (tTup (tCons (tC (.str "most")) (tCons (tVar 4) (tCons (tVar 4) (tCons (tC (.int 8)) tNil))))) tNil)) (tCons (tLst (tCons (tTup (tCons (tC (.str "least")) (tCons (tVar 4) (tCons (tVar 4) (tCons (tC (.int 9)) tNil))))) tNil)) (tCons (tLst (tCons (tTup (tCons (tC (.str "deal")) (tCons (tVar 4) (tCons (tOp rAdd (tVar 4) (tC (.int 2))) (tCons (tTup (tCons (tC (.int 10)) (tCons (tC (.int 1)) tNil))) tNil))))) tNil)) (tCons (tLst tNil) tNil))))) (gName 5))
  (tSeq (tAsg (tLst (tCons (tLst tNil) (tCons (tLst (tCons (tTup (tCons (tC (.str "least")) (tCons (tVar 4) (tCons (tVar 4) (tCons (tC (.int 8)) tNil))))) tNil)) (tCons (tLst (tCons (tTup (tCons (tC (.str "deal")) (tCons (tVar 4) (tCons (tOp rAdd (tVar 4) (tC (.int 2))) (tCons (tTup (tCons (tC (.int 11)) (tCons (tC (.int 1)) tNil))) tNil))))) tNil)) (tCons (tLst tNil) tNil))))) (gName 6))
  (tSeq (tAsg (tCall (sp_Ltake K) [] E0 (tCons (tVar 0) (tCons (tC (.int 4)) tNil))) (gName 7))
  (tSeq (tAsg (tLc (iRng1 (tCons (tCall (sp_Ltake K) [] E0 (tCons (tVar 0) (tCons (tC (.int 9)) tNil))) tNil)) (gName 9) tYes (tTup (tCons (tC (.str "fee")) (tCons (tOp rAdd (tC (.int 400000)) (tOp rMul (tC (.int 3)) (tVar 9))) (tCons (tOp rAdd (tC (.int 400000)) (tOp rMul (tC (.int 3)) (tVar 9))) (tCons (tOp rAdd (tC (.int 1)) (tVar 9)) tNil))))) [9]) (gName 8))
  (tSeq (tIfS (tTest (tOp rEq (tCall (sp_Ltake K) [] E0 (tCons (tVar 0) (tCons (tC (.int 2)) tNil))) (tC (.int 0))))
  (tAsg (tLc (iRng1 (tCons (tCB (rLen K) (tCons (tVar 8) tNil)) tNil)) (gName 9) tYes (tTup (tCons (tC (.str "price")) (tCons (tVar 2) (tCons (tOp rAdd (tVar 2) (tC (.int 13))) (tCons (tVar 9) tNil))))) [9]) (gName 8))
  tNext)
  (tRet (tTup (tCons (tOp rCat (tOp rCat (tVar 8) (tVar 3)) (tOp (rIxL K) (tVar 5) (tVar 7))) (tCons (tOp rCat (tOp rCat (tVar 8) (tVar 3)) (tOp (rIxL K) (tVar 6) (tVar 7))) tNil))))))))))))
theorem pure_Llong {K : PySem.W.Frag} {x y : V} {H : Hp} {Q : VK} {E : XK} (h : sp_Llong K [x, y] H Q E) : t_Llong K { nx := fun _ H' => Q .non H', rt := Q } [some x, some y, none, none, none, none, none, none, none, none] H := by
  obtain ⟨x, y, e, t, s, m, rfl, rfl, T, h0, h1, q⟩ := h
  cases e
  unfold t_Llong
  have T0 : True → Tape H t t s := fun _ => T
  clear T
  walk_at "ss"
  rw [mxi, mni]
  generalize efi : min (1000000 - 14 : Int) (max 0 (m - 2)) = fi
  have f0 : 0 ≤ fi := by omega
  have f1 : fi ≤ 999986 := by omega
  clear efi h0 h1
  have T := T0 trivial
  clear T0
  walk_at "ss"
  rename_i c0 H1 c00 c01 T1 k1 p18 hp18 p17 hp17 c1 H2 c10 c11 T2 k2 p16 hp16 p15 hp15 p14 hp14 p13 hp13 p12 hp12 p11 hp11 p10 hp10 p9 hp9 p8 hp8 p7 hp7 p6 hp6 p5 hp5 p4 hp4 p3 hp3 p2 hp2 p1 hp1 p0 hp0 w H3 w0 w1 T3 k3 nn H4 nn0 nn1 T4 k4
  have cm0 : 0 ≤ fi + c1 := by omega
  have cm1 : fi + c1 + 2 ≤ 1000000 := by omega
  have n17 : p17 ∉ [t, t] := ni_tape hp17 (by walk_at "tp")
  have h17 : H3 p17 = some (.lst [.ref p18]) := k3 _ _ (by walk_at "at") n17
  have n15 : p15 ∉ [t, t] := ni_tape hp15 (by walk_at "tp")
  have n13 : p13 ∉ [t, t] := ni_tape hp13 (by walk_at "tp")
  have n10 : p10 ∉ [t, t] := ni_tape hp10 (by walk_at "tp")
  have n9 : p9 ∉ [t, t] := ni_tape hp9 (by walk_at "tp")
  have n8 : p8 ∉ [t, t] := ni_tape hp8 (by walk_at "tp")
  have n7 : p7 ∉ [t, t] := ni_tape hp7 (by walk_at "tp")
  have n5 : p5 ∉ [t, t] := ni_tape hp5 (by walk_at "tp")
  have n2 : p2 ∉ [t, t] := ni_tape hp2 (by walk_at "tp")
  have n1 : p1 ∉ [t, t] := ni_tape hp1 (by walk_at "tp")
  have n0 : p0 ∉ [t, t] := ni_tape hp0 (by walk_at "tp")
  have r17 : Rus H3 [.ref p18] [⟨.price, fi, fi + 13, .int (c0 + 4)⟩] := ru_kp k3 (by walk_at "tp") (by walk_at "ru")
  have g17 := gd_one (gd_price (f := fi) (l := fi + 13) (n := c0 + 4) f0 (by omega) (by omega) (by omega) (by omega))
  have a15 : FewAt t H3 (.ref p15) := ⟨p15, [.ref p16], [⟨.most, fi + c1, fi + c1, .int 8⟩], rfl, n15, k3 _ _ (by walk_at "at") n15, ru_kp k3 (by walk_at "tp") (by walk_at "ru"), gd_one (gd_night (.inr rfl) cm0 (by omega) (by decide) (by decide)), by simp⟩
  have a13 : FewAt t H3 (.ref p13) := ⟨p13, [.ref p14], [⟨.least, fi + c1, fi + c1, .int 9⟩], rfl, n13, k3 _ _ (by walk_at "at") n13, ru_kp k3 (by walk_at "tp") (by walk_at "ru"), gd_one (gd_night (.inl rfl) cm0 (by omega) (by decide) (by decide)), by simp⟩
  have a10 : FewAt t H3 (.ref p10) := ⟨p10, [.ref p11], [⟨.deal, fi + c1, fi + c1 + 2, .tuple [.int 10, .int 1]⟩], rfl, n10, k3 _ _ (by walk_at "at") n10, ru_kp k3 (by walk_at "tp") (by walk_at "ru"), gd_one ⟨cm0, by dsimp only; omega, cm1, rfl⟩, by simp⟩
  have a9 : FewAt t H3 (.ref p9) := ⟨p9, [], [], rfl, n9, k3 _ _ (by walk_at "at") n9, .nil, by simp, by simp⟩
  have a7 : FewAt t H3 (.ref p7) := ⟨p7, [], [], rfl, n7, k3 _ _ (by walk_at "at") n7, .nil, by simp, by simp⟩
  have a5 : FewAt t H3 (.ref p5) := ⟨p5, [.ref p6], [⟨.least, fi + c1, fi + c1, .int 8⟩], rfl, n5, k3 _ _ (by walk_at "at") n5, ru_kp k3 (by walk_at "tp") (by walk_at "ru"), gd_one (gd_night (.inl rfl) cm0 (by omega) (by decide) (by decide)), by simp⟩
  have a2 : FewAt t H3 (.ref p2) := ⟨p2, [.ref p3], [⟨.deal, fi + c1, fi + c1 + 2, .tuple [.int 11, .int 1]⟩], rfl, n2, k3 _ _ (by walk_at "at") n2, ru_kp k3 (by walk_at "tp") (by walk_at "ru"), gd_one ⟨cm0, by dsimp only; omega, cm1, rfl⟩, by simp⟩
  have a1 : FewAt t H3 (.ref p1) := ⟨p1, [], [], rfl, n1, k3 _ _ (by walk_at "at") n1, .nil, by simp, by simp⟩
  have h8 : H3 p8 = some (.lst [.ref p15, .ref p13, .ref p10, .ref p9]) := k3 _ _ (by walk_at "at") n8
  have h0 : H3 p0 = some (.lst [.ref p7, .ref p5, .ref p2, .ref p1]) := k3 _ _ (by walk_at "at") n0
  have k03 : Kp [t, t] H H3 := by walk_at "kp"
  clear k3 hp0 hp1 hp2 hp3 hp4 hp5 hp6 hp7 hp8 hp9 hp10 hp11 hp12 hp13 hp14 hp15 hp16 hp17 hp18 k1 k2 T1 T2
  have few : ∀ v ∈ [V.ref p15, .ref p13, .ref p10, .ref p9], FewAt t H3 v := fun v hv => by
    simp only [List.mem_cons, List.not_mem_nil, or_false] at hv
    rcases hv with rfl | rfl | rfl | rfl <;> assumption
  have many : ∀ v ∈ [V.ref p7, .ref p5, .ref p2, .ref p1], FewAt t H3 v := fun v hv => by
    simp only [List.mem_cons, List.not_mem_nil, or_false] at hv
    rcases hv with rfl | rfl | rfl | rfl <;> assumption
  clear a1 a2 a5 a7 a9 a10 a13 a15 n1 n2 n5 n7 n9 n10 n13 n15
  refine lc_r walk_range RuT (fun _ _ _ _ k h => h.tk k) (fun i => some (hidF i)) (by omega) (fun _ _ => trivial) ?_ ?_
  · rintro D j xj H5 H6 N hD hj s5 ⟨rfl, rfl⟩ hy -
    walk_at "ss"
    rename_i pe hpe
    refine hy _ _ _ rfl (same_new hpe) ?_
    rw [Int.zero_add]
    exact ⟨pe, _, rfl, upd_same, .int _⟩
  intro D H5 ys hD s5 h5 r5
  have n45 := Same.kp s5 [t, t]
  have T5 := tape_same s5 T4
  have k35 := k4.trans n45
  have nD : D ∉ [t, t] := ni_tape hD T4
  have few5 : ∀ v ∈ [V.ref p15, .ref p13, .ref p10, .ref p9], FewAt t H5 v := fun v hv => (few v hv).kp k35 T3
  have many5 : ∀ v ∈ [V.ref p7, .ref p5, .ref p2, .ref p1], FewAt t H5 v := fun v hv => (many v hv).kp k35 T3
  have h17 := k35 _ _ h17 n17
  have h8 := k35 _ _ h8 n8
  have h0 := k35 _ _ h0 n0
  have r17 := ru_kp k35 T3 r17
  have k05 := k03.trans k35
  have g5 : ∀ r ∈ (List.range nn.toNat).filterMap (fun i => some (hidF i)), RuleD.good r := fun r hr => by
    obtain ⟨i, hi, e⟩ := List.mem_filterMap.mp hr
    cases e
    have := List.mem_range.mp hi
    exact gd_fee (by omega) (by omega) (by omega) (by omega)
  have l5 : ((List.range nn.toNat).filterMap (fun i => some (hidF i))).length ≤ 8 := Nat.le_trans (List.length_filterMap_le ..) (by simp; omega)
  generalize (List.range nn.toNat).filterMap (fun i => some (hidF i)) = zs at r5 g5 l5
  have fD : Fr H D := fr_kp hD (k03.trans k4) nD
  clear few many k35 n45 s5 k4 k03 T3 T4 hD
  have yl := ru_len r5
  dsimp only [List.set]
  walk_at "ss"
  with_reducible refine jn (P := fun σ H' => ∃ (pl : Addr) (us : List V) (rs : List RuleD), σ = [some (.ref t), some (.int m), some (.int fi), some (.ref p17), some (.int (fi + c1)), some (.ref p8), some (.ref p0), some (.int w), some (.ref pl), none] ∧ Tape H' t t s ∧ Kp [t, t] H5 H' ∧ H' pl = some (.lst us) ∧ Rus H' us rs ∧ (∀ r ∈ rs, RuleD.good r) ∧ rs.length ≤ 8) ?_ fun N hN => ?_
  · rintro σ H6 ⟨pl, us, rs, rfl, T6, k6, h6, r6, g6, l6⟩
    have few6 : ∀ v ∈ [V.ref p15, .ref p13, .ref p10, .ref p9], FewAt t H6 v := fun v hv => (few5 v hv).kp k6 T5
    have many6 : ∀ v ∈ [V.ref p7, .ref p5, .ref p2, .ref p1], FewAt t H6 v := fun v hv => (many5 v hv).kp k6 T5
    have h17 := k6 _ _ h17 n17
    have h8 := k6 _ _ h8 n8
    have h0 := k6 _ _ h0 n0
    have r17 := ru_kp k6 T5 r17
    have k06 := k05.trans k6
    have ul := ru_len r6
    clear k6 T5 few5 many5 k05
    walk_at "ss"
    rename_i l7 hl7 v7 hv7
    obtain ⟨a7, xs7, rs7, rfl, n7, h7, r7, g7, e7⟩ := few6 _ hv7
    have x7 := ru_len r7
    walk_at "ss"
    rename_i l8 hl8 l9 hl9 v8 hv8
    obtain ⟨a8, xs8, rs8, rfl, n8', h8', r8, g8, e8⟩ := many6 _ hv8
    have x8 := ru_len r8
    walk_at "ss"
    rename_i l10 hl10 l11 hl11
    refine q l11 l8 l10 (us ++ [.ref p18] ++ xs7) (us ++ [.ref p18] ++ xs8) (rs ++ [⟨.price, fi, fi + 13, .int (c0 + 4)⟩] ++ rs7) (rs ++ [⟨.price, fi, fi + 13, .int (c0 + 4)⟩] ++ rs8) _ (by walk_at "tp") (by walk_at "kp") ?_ ?_ upd_same (by walk_at "at") (by walk_at "at") (by walk_at "ru") (by walk_at "ru") (gd_app (gd_app g6 g17) g7) (gd_app (gd_app g6 g17) g8) (by simp; omega) (by simp; omega)
    · exact fr_kp hl8 (by walk_at "kp") (ni_tape hl8 (by walk_at "tp"))
    · exact fr_kp hl10 (by walk_at "kp") (ni_tape hl10 (by walk_at "tp"))
  · walk_at "ss"
    rename_i d H6 d0 d1 T6 k6
    have h6 := k6 _ _ h5 nD
    rw [int_eq]
    refine ite_d (fun z => ?_) fun z => ?_
    · walk_at "ss"
      refine lc_r walk_range RuT (fun _ _ _ _ k h => h.tk k) (fun i => some (hidP fi i)) (by omega) (fun _ _ => trivial) ?_ ?_
      · rintro D2 j xj H7 H8 N hD hj s5 ⟨rfl, rfl⟩ hy -
        walk_at "ss"
        rename_i pe hpe
        refine hy _ _ _ rfl (same_new hpe) ⟨pe, _, rfl, upd_same, ?_⟩
        show Td _ (.int (0 + (j : Int))) (.int (j : Int))
        rw [Int.zero_add]
        exact .int _
      intro D2 H7 us hD2 s7 h7 r7
      walk_at "ss"
      refine hN _ _ ⟨D2, us, _, rfl, tape_same s7 T6, kp_tr (Same.kp s7 _) k6, h7, r7, fun r hr => ?_, Nat.le_trans (List.length_filterMap_le ..) (by simp; omega)⟩
      obtain ⟨i, hi, e⟩ := List.mem_filterMap.mp hr
      cases e
      have := List.mem_range.mp hi
      exact gd_price (by omega) (by omega) (by omega) (by omega) (by omega)
    · walk_at "ss"
      exact hN _ _ ⟨D, ys, zs, rfl, T6, k6, h6, ru_kp k6 T5 r5, g5, l5⟩
def t_Ltwo (K : PySem.W.Frag) : TS :=
  (tSeq (tIfS (tTest (tOp rEq (tCall (sp_Ltake K) [] E0 (tCons (tVar 0) (tCons (tC (.int 4)) tNil))) (tC (.int 0))))
  (tRet (tCall (sp_Llong K) [] E0 (tCons (tVar 0) (tCons (tVar 1) tNil))))
  tNext)
  (tSeq (tAsg (tCall (sp_Lfew K) [] E0 (tCons (tVar 0) (tCons (tVar 1) (tCons (tC (.int 2)) tNil)))) (gName 2))
  (tSeq (tIfS (tTest (tOp rGt (tCall (sp_Ltake K) [] E0 (tCons (tVar 0) (tCons (tC (.int 4)) tNil))) (tC (.int 0))))
  (tRet (tTup (tCons (tVar 2) (tCons (tCall (sp_Lturned K) [] E0 (tCons (tVar 0) (tCons (tVar 2) (tCons (tVar 1) tNil)))) tNil))))
  tNext)
  (tRet (tTup (tCons (tVar 2) (tCons (tCall (sp_Lfew K) [] E0 (tCons (tVar 0) (tCons (tVar 1) (tCons (tC (.int 2)) tNil)))) tNil)))))))
theorem pure_Ltwo {K : PySem.W.Frag} {x y : V} {H : Hp} {Q : VK} {E : XK} (h : sp_Ltwo K [x, y] H Q E) : t_Ltwo K { nx := fun _ H' => Q .non H', rt := Q } [some x, some y, none] H := by
  obtain ⟨x, y, e, t, s, m, rfl, rfl, T, h0, h1, q⟩ := h
  cases e
  unfold t_Ltwo
  walk_at "ss"
  rename_i d H1 d0 d1 T1 k1
  rw [int_eq]
  refine ite_d (fun z => ?_) fun z => ?_
  · walk_at "ss"
    exact g_Llong T1 h0 h1 fun p pa pb xs ys rs ss H' T' k' fa fb hp ha hb r1 r2 g1 g2 l1 l2 => q p pa pb xs ys rs ss H' T' (kp_tr k' k1) (fr_kp fa k1 (ni_tape fa T1)) (fr_kp fb k1 (ni_tape fb T1)) hp ha hb r1 r2 g1 g2 l1 l2
  · walk_at "ss"
    refine g_Lfew T1 h0 h1 (by decide) (by decide) fun p4 xs4 rs H4 T4 k4 f4 h4 r4 l4 g4 => ?_
    have n4 : p4 ∉ [t, t] := ni_tape f4 T1
    have f4' : Fr H p4 := fr_kp f4 k1 n4
    have k04 := k1.trans k4
    dsimp only [List.set]
    walk_at "ss"
    rename_i d5 H5 d50 d51 T5 k5
    have h45 := k5 _ _ h4 n4
    have r45 := ru_kp k5 T4 r4
    have k05 := k04.trans k5
    refine ite_d (fun z5 => ?_) fun z5 => ?_
    · walk_at "ss"
      refine g_Lturned T5 (SqL.of h45) r45 g4 (by omega) h0 (by omega) fun p6 xs6 ss H6 T6 k6 f6 h6 r6 l6 g6 => ?_
      have n6 : p6 ∉ [t, t] := ni_tape f6 T5
      walk_at "ss"
      rename_i p7 hp7
      exact q p7 p4 p6 xs4 xs6 rs ss _ (by walk_at "tp") (kp_new hp7 (k05.trans k6)) f4' (fr_kp f6 k05 n6) upd_same (at_new hp7 (k6 _ _ h45 n4)) (at_new hp7 h6) (ru_new hp7 (ru_kp k6 T5 r45)) (ru_new hp7 r6) g4 g6 (by omega) (by omega)
    · walk_at "ss"
      refine g_Lfew T5 h0 h1 (by decide) (by decide) fun p6 xs6 ss H6 T6 k6 f6 h6 r6 l6 g6 => ?_
      have n6 : p6 ∉ [t, t] := ni_tape f6 T5
      walk_at "ss"
      rename_i p7 hp7
      exact q p7 p4 p6 xs4 xs6 rs ss _ (by walk_at "tp") (kp_new hp7 (k05.trans k6)) f4' (fr_kp f6 k05 n6) upd_same (at_new hp7 (k6 _ _ h45 n4)) (at_new hp7 h6) (ru_new hp7 (ru_kp k6 T5 r45)) (ru_new hp7 r6) g4 g6 (by omega) (by omega)
/-! k67: the stays for which two books are not alike, told. -/
open PySem PySem.Spec PyProof.Rows L2
def sp_Lwhole (K : PySem.W.Frag) : Sp := Sp1 fun x H Q E => ∃ (rs ss : List RuleD), FoundAt H x rs ss ∧ ∀ H', Same H H' → Q (.bl true) H'
theorem g_LwholeF {K : PySem.W.Frag} {v : V} {rs ss : List RuleD} {H : Hp} {Q : VK} {E : XK} (h : FoundAt H v rs ss) (q : ∀ H', Same H H' → Q (.bl true) H') : sp_Lwhole K ([v] ++ []) H Q E := ⟨_, rfl, rs, ss, h, q⟩
theorem g_catTT {K : PySem.W.Frag} {H : Hp} {Q : VK} {a b : Addr} {xs ys : List V} (h : H a = some (.tup xs)) (h2 : H b = some (.tup ys)) (nx : xs ≠ []) (ny : ys ≠ []) (z : xs.length + ys.length ≤ sizeLine) (q : ∀ p, Fr H p → Q (.ref p) (upd H p (.tup (xs ++ ys)))) : rCatT K (.ref a) (.ref b) H Q :=
  ⟨a, b, xs, ys, rfl, rfl, SqT.of h, SqT.of h2, nx, z, fun e => absurd e ny, fun _ => q⟩
def t_Lwhole (K : PySem.W.Frag) : TS :=
  (tSeq (tIfS (tTest (tOp rIsN (tVar 0) (tC .non)))
  (tRet (tC (.bl true)))
  tNext)
  (tSeq (tIfS (tOr (tNot (tB (tCB (rIsi K) (tCons (tVar 0) (tCons (tC (.ty "tuple")) tNil))))) (tNot (tB (tCB (rIsi K) (tCons (tOp (rIxT K) (tVar 0) (tC (.int 0))) (tCons (tC (.ty "tuple")) tNil))))))
  (tRet (tC (.bl false)))
  tNext)
  (tRet (tOp rEq (tCB (rLen K) (tCons (tLc (iTup K (tOp (rCatT K) (tOp (rIxT K) (tVar 0) (tC (.int 0))) (tSl (rSlT K) (tVar 0) (tPart (tC (.int 1))) tNoPart))) (gName 1) (tB (tCB (rIsi K) (tCons (tVar 1) (tCons (tC (.ty "bool")) tNil)))) (tVar 1) [1]) tNil)) (tC (.int 0))))))
theorem pure_Lwhole {K : PySem.W.Frag} {x : V} {H : Hp} {Q : VK} {E : XK} (h : sp_Lwhole K [x] H Q E) : t_Lwhole K { nx := fun _ H' => Q .non H', rt := Q } [some x, none] H := by
  obtain ⟨x, e, rs, ss, h, q⟩ := h
  cases e
  unfold t_Lwhole
  walk_at "ss"
  rcases h with ⟨rfl, e⟩ | ⟨n, c, pf, qf, rfl, e, h1, h2⟩
  · refine ite_t (by decide) ?_
    walk_at "ss"
    exact q _ (Same.refl _)
  · clear e
    have cc1 : ∀ o : Option Int, coV o = .non ∨ ∃ i, coV o = .int i := fun o => by cases o <;> simp [coV]
    have e1 := cc1 (coinO rs c (c + (n : Nat)))
    have e2 := cc1 (coinO ss c (c + (n : Nat)))
    generalize coV (coinO rs c (c + (n : Nat))) = w1 at h1 e1
    generalize coV (coinO ss c (c + (n : Nat))) = w2 at h1 e2
    refine ite_f (decide_eq_false (by intro z; cases z)) ?_
    walk_at "ss"
    rename_i p1 hp1
    have e3 : cutV [V.ref qf, w1, w2] (some 1) none = [w1, w2] := rfl
    rw [e3]
    refine g_catTT (at_new hp1 h2) upd_same (by simp) (by simp) (by simp [sizeLine_eq]) fun p2 hp2 => ?_
    walk_at "ss"
    refine lc_w (f := fun _ => none) (walk_tup (K := K) (a := p2) (xs := [.int c, .int (c + (n : Nat)), w1, w2])) (by simp) (fun H' s => SqT.of (s _ _ upd_same)) ?_ ?_
    · rintro D j xj H6 H7 N hD hj s6 ⟨rfl, hx⟩ hy hn2
      have ex : xj = .non ∨ ∃ i, xj = .int i := by
        match j, hx with
        | 0, hx => cases hx; exact .inr ⟨_, rfl⟩
        | 1, hx => cases hx; exact .inr ⟨_, rfl⟩
        | 2, hx => cases hx; exact e1
        | 3, hx => cases hx; exact e2
      rcases ex with rfl | ⟨i, rfl⟩
      · walk_at "ss"
        exact hn2 _ rfl (Same.refl _)
      · walk_at "ss"
        exact hn2 _ rfl (Same.refl _)
    · intro D H6 hD s6 h6
      have e0 : (List.range [V.int c, .int (c + (n : Nat)), w1, w2].length).filterMap (fun _ => (none : Option V)) = [] := by simp
      rw [e0] at h6
      walk_at "ss"
      exact q _ ((sm_new hp2 (same_new hp1)).trans s6)
theorem unlike_comm (rs ss : List RuleD) : unlikeB rs ss = unlikeB ss rs := by
  funext n c
  unfold unlikeB
  rw [decide_eq_decide.mpr (eq_comm (a := coinO rs c (c + n)))]
theorem ap_comm (rs ss : List RuleD) : apO rs ss = apO ss rs := by
  unfold apO
  rw [unlike_comm]
theorem g_dueU {K : PySem.W.Frag} {pa pb : Addr} {xs ys : List V} {rs ss : List RuleD} {H : Hp} {Q : VK} {E : XK} (ha : H pa = some (.lst xs)) (hb : H pb = some (.lst ys)) (R1 : Rus H xs rs) (R2 : Rus H ys ss) (g1 : ∀ r ∈ rs, RuleD.good r) (g2 : ∀ r ∈ ss, RuleD.good r) (l1 : rs.length ≤ 24) (l2 : ss.length ≤ 24) (k : ∀ v H', Same H H' → FoundAt H' v rs ss → Q v H') : sp_Ldue K ([.ref pa, .ref pb] ++ []) H Q E :=
  g_Ldue ha hb R1 R2 g1 g2 l1 l2 ⟨fun e H' s => k _ _ s (.inl ⟨rfl, e⟩), fun n c e p q H' s _ _ h1 h2 => k _ _ s (.inr ⟨n, c, p, q, rfl, e, h1, h2⟩)⟩
def sp_law (K : PySem.W.Frag) : Sp := Sp1 fun x H Q E => CFR K ∧ CFB K ∧ ∃ (a : Addr) (ns : List Int), x = .ref a ∧ SqL K H a (ns.map V.int) ∧ ns.length ≤ 63 ∧ ∀ H', Q (.bl true) H'
def t_law (K : PySem.W.Frag) : TS :=
  (tSeq (tFor (iList K (tOp rCat (tLst (tCons (tC (.int 0)) tNil)) (tSl (rSlL K) (tVar 0) tNoPart (tPart (tC (.int 1)))))) (gName 1)
  (tSeq (tAsg (tCall (sp_Lbegin K) [] E0 (tCons (tVar 1) tNil)) (gName 2))
  (tSeq (tAsg (tCall (sp_Lday K) [] E0 (tCons (tVar 2) tNil)) (gName 3))
  (tSeq (tAsg (tCall (sp_Ltwo K) [] E0 (tCons (tVar 2) (tCons (tVar 3) tNil))) (gTup K 2 (gCons (gName 4) (gCons (gName 5) gNil))))
  (tSeq (tAsg (tCall (sp_Ldue K) [] E0 (tCons (tVar 4) (tCons (tVar 5) tNil))) (gName 6))
  (tSeq (tAsg (tMake (He.ga K "Book") (sp_Book_init K) [] E0 (tCons (tVar 4) tNil)) (gName 7))
  (tSeq (tAsg (tMake (He.ga K "Book") (sp_Book_init K) [] E0 (tCons (tVar 5) tNil)) (gName 8))
  (tSeq (tAsg (tCall (sp_apart K) [] E0 (tCons (tVar 7) (tCons (tVar 8) tNil))) (gName 9))
  (tSeq (tIfS (tOr (tTest (tOp (rNeD K) (tVar 9) (tVar 6))) (tNot (tB (tCall (sp_Lwhole K) [] E0 (tCons (tVar 9) tNil)))))
  (tRet (tC (.bl false)))
  tNext)
  (tSeq (tAsg (tCall (sp_apart K) [] E0 (tCons (tVar 8) (tCons (tVar 7) tNil))) (gName 10))
  (tSeq (tIfS (tOr (tAnd (tTest (tOp rIsN (tVar 6) (tC .non))) (tTest (tOp rNotN (tVar 10) (tC .non)))) (tAnd (tTest (tOp rNotN (tVar 6) (tC .non))) (tTest (tOp (rNeD K) (tVar 10) (tTup (tCons (tOp (rIxT K) (tVar 6) (tC (.int 0))) (tCons (tOp (rIxT K) (tVar 6) (tC (.int 2))) (tCons (tOp (rIxT K) (tVar 6) (tC (.int 1))) tNil))))))))
  (tRet (tC (.bl false)))
  tNext)
  (tIfS (tOr (tTest (tOp (rNeD K) (tMeth (He.ga K "Book") "rules" (sp_Book_rules K) [] E0 (tVar 7) tNil) (tVar 4))) (tTest (tOp (rNeD K) (tMeth (He.ga K "Book") "rules" (sp_Book_rules K) [] E0 (tVar 8) tNil) (tVar 5))))
  (tRet (tC (.bl false)))
  tNext))))))))))))
  (tRet (tC (.bl true))))
theorem pure_law {K : PySem.W.Frag} {x : V} {H : Hp} {Q : VK} {E : XK} (h : sp_law K [x] H Q E) : t_law K { nx := fun _ H' => Q .non H', rt := Q } ([some x] ++ List.replicate 10 none) H := by
  obtain ⟨x, e, cf, cb, a, ns, rfl, hS, hl, q⟩ := h
  cases e
  dsimp only [List.replicate, List.append, List.cons_append, List.nil_append]
  unfold t_law
  walk_at "ss"
  rename_i q1 hq1 q2 hq2 l hl2
  have e6 : (V.int 0 :: (ns.map V.int).take (Int.toNat 1)) = (0 :: ns.take 1).map V.int := by
    rw [List.map_cons, List.map_take]
    rfl
  have hlG : (upd (upd (upd H q1 (.lst [.int 0])) q2 (.lst ((ns.map V.int).take (Int.toNat 1)))) l (.lst ([.int 0] ++ (ns.map V.int).take (Int.toNat 1)))) l = some (.lst ((0 :: ns.take 1).map V.int)) := by
    rw [upd_same, List.singleton_append, e6]
  generalize (upd (upd (upd H q1 (.lst [.int 0])) q2 (.lst ((ns.map V.int).take (Int.toNat 1)))) l (.lst ([.int 0] ++ (ns.map V.int).take (Int.toNat 1)))) = G at hlG ⊢
  clear hq1 hq2 hl2 e6
  refine for_list (K := K) (a := l) (xs := (0 :: ns.take 1).map V.int) (fun i σ H' => ∃ v1 v2 v3 v4 v5 v6 v7 v8 v9 v10, σ = [some (.ref a), v1, v2, v3, v4, v5, v6, v7, v8, v9, v10] ∧ Same G H') ⟨_, _, _, _, _, _, _, _, _, _, rfl, Same.refl _⟩ (fun i σ H' _ h => by obtain ⟨_, _, _, _, _, _, _, _, _, _, _, h⟩ := h; exact SqL.of (h _ _ hlG)) ?_ ?_
  · rintro i x σ H0 hi ⟨v1, v2, v3, v4, v5, v6, v7, v8, v9, v10, rfl, sm⟩
    obtain ⟨cell, rfl⟩ : ∃ c : Int, x = .int c := by
      obtain ⟨c, -, e⟩ := List.mem_map.mp (List.mem_of_getElem? hi)
      exact ⟨c, e.symm⟩
    walk_at "ss"
    rename_i t H1 s1 ft T1
    refine g_Lday T1 fun day H2 T2 k2 d0 d1 => ?_
    walk_at "ss"
    refine g_Ltwo2 T2 d0 (by omega) fun p3 pa pb xs3 xs4 rs ss H3 T3 k3 fa fb h3 ha hb r3 r4 g3 g4 l3 l4 => ?_
    walk_at "ss"
    have na : pa ∉ [t, t] := ni_tape fa T2
    have S3 : Same G H3 := sm.trans (same_kp s1 (kp_tr k3 k2) ft ft)
    clear k2 k3 T1 T2 fa fb s1 sm ft
    refine g_dueU ha hb r3 r4 g3 g4 (by omega) (by omega) fun due H4 s4 u4 => ?_
    have T4 := tape_same s4 T3
    have ha4 := s4 _ _ ha
    have hb4 := s4 _ _ hb
    have ra4 := ru_same s4 r3
    have rb4 := ru_same s4 r4
    have S4 := S3.trans s4
    clear ha hb r3 r4 S3 s4 T3
    walk_at "ss"
    rename_i b1 F1 H5 s5 bk1 f1 m1 b2 F2 H6 s6 bk2 f2 m2
    have c1 := bk_same s6 bk1
    have s46 := s5.trans s6
    refine g_foundU cf cb ⟨F1, c1⟩ ⟨F2, bk2⟩ g3 g4 l3 l4 fun u1 H7 s7 u7 => ?_
    have due7 := u4.same (s46.trans s7)
    walk_at "ss"
    refine g_neD_found u7 due7 rfl ?_
    walk_at "ss"
    refine g_LwholeF u7 fun H8 s8 => ?_
    have due8 := due7.same s8
    walk_at "ss"
    refine g_foundU cf cb ⟨F2, bk_same (s7.trans s8) bk2⟩ ⟨F1, bk_same (s7.trans s8) c1⟩ g4 g3 l4 l3 fun u2 H9 s9 u9 => ?_
    have due9 := due8.same s9
    have s49 := s46.trans (s7.trans (s8.trans s9))
    have k1 := bk_same (s7.trans (s8.trans s9)) c1
    have k2 := bk_same (s7.trans (s8.trans s9)) bk2
    have ha9 := s49 _ _ ha4
    have hb9 := s49 _ _ hb4
    have ra9 := ru_same s49 ra4
    have rb9 := ru_same s49 rb4
    have S9 := S4.trans s49
    clear ha4 hb4 ra4 rb4 S4 s49 due8 due7 u7 u4 s9 s8 s7 s46 c1 bk1 bk2 s5 s6 f1 f2
    with_reducible refine g_name ?_
    dsimp only [List.set]
    with_reducible refine g_seq ?_
    with_reducible refine g_ifS ?_
    refine cut_ts false (fun k' hk => ?_) fun H10 s10 => ?_
    · have ec := ap_comm rs ss
      rcases due9 with ⟨rfl, e⟩ | ⟨n, c, pf, qf, rfl, e, h1, h2⟩
      · rcases u9 with ⟨rfl, -⟩ | ⟨n, c, pf, qf, -, e2, -, -⟩
        · clear e ec
          walk_at "ss"
          refine ite_t (by decide) ?_
          walk_at "ss"
          refine ite_f (by decide) ?_
          walk_at "ss"
          refine ite_f (by decide) ?_
          exact hk _ (Same.refl _)
        · rw [← ec, e] at e2
          cases e2
      · rcases u9 with ⟨-, e2⟩ | ⟨n', c', pg, qg, rfl, e2, h3, h4⟩
        · rw [← ec, e] at e2
          cases e2
        · rw [← ec, e] at e2
          cases e2
          clear e ec
          have td1 := co_td H9 (coinO rs c (c + (n : Nat)))
          have td2 := co_td H9 (coinO ss c (c + (n : Nat)))
          have es1 := sh_co (coinO rs c (c + (n : Nat))) 0
          have es2 := sh_co (coinO ss c (c + (n : Nat))) 0
          generalize ew1 : coV (coinO rs c (c + (n : Nat))) = w1 at h1 h3 td1
          generalize ew2 : coV (coinO ss c (c + (n : Nat))) = w2 at h1 h3 td2
          walk_at "ss"
          refine ite_f (decide_eq_false (by intro z; cases z)) ?_
          walk_at "ss"
          refine ite_t (by rw [decide_eq_false (by intro z; cases z)]; rfl) ?_
          walk_at "ss"
          rename_i pt hpt
          subst ew1 ew2
          refine g_neD_same (d := .tuple [.tuple [.int c, .int (c + (n : Nat))], coD (coinO ss c (c + (n : Nat))), coD (coinO rs c (c + (n : Nat)))]) (.tup (SqT.of (at_new hpt h3)) (.cons (.tup (SqT.of (at_new hpt h4)) (.cons (.int _) (.cons (.int _) .nil))) (.cons (co_td _ _).dp (.cons (co_td _ _).dp .nil)))) (.tup (SqT.of upd_same) (.cons (.tup (SqT.of (at_new hpt h2)) (.cons (.int _) (.cons (.int _) .nil))) (.cons (co_td _ _).dp (.cons (co_td _ _).dp .nil)))) (sh_tup (n := 1) fun x hx => ?_) (by decide) ⟨_, rfl, hk _ (same_new hpt)⟩
          simp only [List.mem_cons, List.not_mem_nil, or_false] at hx
          rcases hx with rfl | rfl | rfl
          · refine sh_tup fun x hx => ?_
            simp only [List.mem_cons, List.not_mem_nil, or_false] at hx
            rcases hx with rfl | rfl <;> exact sh_int _ _
          · exact sh_co _ _
          · exact sh_co _ _
    refine ite_f (by decide) ?_
    walk_at "ss"
    rename_i qa Ha za sa fa' ha' ra'
    have t1 := s10.trans sa
    refine g_neD_same (dp_row (SqL.of ha') ra') (dp_row (SqL.of (t1 _ _ ha9)) (ru_same t1 ra9)) (sh_rules g3) (by decide) ?_
    walk_at "ss"
    rename_i qb Hb zb sb fb' hb' rb'
    have t2 := t1.trans sb
    refine g_neD_same (dp_row (SqL.of hb') rb') (dp_row (SqL.of (t2 _ _ hb9)) (ru_same t2 rb9)) (sh_rules g4) (by decide) ?_
    walk_at "ss"
    exact ⟨_, _, _, _, _, _, _, _, _, _, rfl, S9.trans t2⟩
  · rintro σ H' ⟨v1, v2, v3, v4, v5, v6, v7, v8, v9, v10, rfl, sm⟩
    walk_at "ss"
    exact q _
open PySem PySem.Spec PyProof.Rows L2 YHd
/-- what the module's names hold -/
structure Txt (K : PySem.W.Frag) (mg : Str → Option Value) : Prop where
  b_bool : mg "bool" = none
  b_enumerate : mg "enumerate" = none
  b_int : mg "int" = none
  b_isinstance : mg "isinstance" = none
  b_len : mg "len" = none
  b_list : mg "list" = none
  b_max : mg "max" = none
  b_min : mg "min" = none
  b_range : mg "range" = none
  b_set : mg "set" = none
  b_sorted : mg "sorted" = none
  b_str : mg "str" = none
  b_sum : mg "sum" = none
  b_tuple : mg "tuple" = none
  c_LAST_DAY : ∃ u, mg "LAST_DAY" = some u ∧ RelV (.int 1000000) u
  c_MOST_COINS : ∃ u, mg "MOST_COINS" = some u ∧ RelV (.int 1000000000000) u
  c_MOST_NIGHTS : ∃ u, mg "MOST_NIGHTS" = some u ∧ RelV (.int 14) u
  c_MOST_RULES_books : ∃ u, mg "MOST_RULES_books" = some u ∧ RelV (.int 24) u
  c_MOST_RULES_twos : ∃ u, mg "MOST_RULES_twos" = some u ∧ RelV (.int 12) u
  c_WORDS : ∃ u, mg "WORDS" = some u ∧ RelV (.ref (He.ga K "WORDS")) u
  g_Book : mg "Book" = some (.ref (He.ga K "Book"))
  g_Come : mg "Come" = some (.ref (He.ga K "Come"))
  g_Deal : mg "Deal" = some (.ref (He.ga K "Deal"))
  g_Fee : mg "Fee" = some (.ref (He.ga K "Fee"))
  g_Go : mg "Go" = some (.ref (He.ga K "Go"))
  g_Least : mg "Least" = some (.ref (He.ga K "Least"))
  g_Most : mg "Most" = some (.ref (He.ga K "Most"))
  g_Price : mg "Price" = some (.ref (He.ga K "Price"))
section
variable {P : Program} {w : World} {K : PySem.W.Frag} {mg : Str → Option Value} {base : Heap}
theorem sc_Lbegin : FnScope ["_law_cell"] ["_law_cell"] (defScope s_Lbegin) := ⟨rfl, rfl, rfl, by decide +kernel, rfl, by decide +kernel, by decide +kernel⟩
theorem sc_Ltake : FnScope ["_law_row", "_law_base", "_law_found", "_law_number"] ["_law_row", "_law_base"] (defScope s_Ltake) := ⟨rfl, rfl, rfl, by decide +kernel, rfl, by decide +kernel, by decide +kernel⟩
theorem sc_Lday : FnScope ["_law_row"] ["_law_row"] (defScope s_Lday) := ⟨rfl, rfl, rfl, by decide +kernel, rfl, by decide +kernel, by decide +kernel⟩
theorem sc_Llong : FnScope ["_law_row", "_law_day_here", "_law_first", "_law_rules", "_law_come", "_law_few_here", "_law_many", "_law_way", "_law_hidden", "_law_k"] ["_law_row", "_law_day_here"] (defScope s_Llong) := ⟨rfl, rfl, rfl, by decide +kernel, rfl, by decide +kernel, by decide +kernel⟩
theorem sc_Lcoins : FnScope ["_law_row", "_law_few_here", "_law_many", "_law_great"] ["_law_row"] (defScope s_Lcoins) := ⟨rfl, rfl, rfl, by decide +kernel, rfl, by decide +kernel, by decide +kernel⟩
theorem sc_Lworth : FnScope ["_law_row", "_law_word", "_law_many", "_law_free", "_law_coins_here"] ["_law_row", "_law_word"] (defScope s_Lworth) := ⟨rfl, rfl, rfl, by decide +kernel, rfl, by decide +kernel, by decide +kernel⟩
theorem sc_Lrule : FnScope ["_law_row", "_law_day_here", "_law_word", "_law_ahead", "_law_first", "_law_last"] ["_law_row", "_law_day_here"] (defScope s_Lrule) := ⟨rfl, rfl, rfl, by decide +kernel, rfl, by decide +kernel, by decide +kernel⟩
theorem sc_Lfew : FnScope ["_law_row", "_law_day_here", "_law_most", "_law_rules", "_law_k"] ["_law_row", "_law_day_here", "_law_most"] (defScope s_Lfew) := ⟨rfl, rfl, rfl, by decide +kernel, rfl, by decide +kernel, by decide +kernel⟩
theorem sc_Lturned : FnScope ["_law_row", "_law_rules", "_law_day_here", "_law_some", "_law_at", "_law_way", "_law_word", "_law_first", "_law_last", "_law_worth_here", "_law_one", "_law_other"] ["_law_row", "_law_rules", "_law_day_here"] (defScope s_Lturned) := ⟨rfl, rfl, rfl, by decide +kernel, rfl, by decide +kernel, by decide +kernel⟩
theorem sc_Ltwo : FnScope ["_law_row", "_law_day_here", "_law_mine"] ["_law_row", "_law_day_here"] (defScope s_Ltwo) := ⟨rfl, rfl, rfl, by decide +kernel, rfl, by decide +kernel, by decide +kernel⟩
theorem sc_Lcomes : FnScope ["_law_books", "_law_nights", "_law_days", "_law_rules", "_law_word", "_law_first", "_law_last", "_law_worth_here", "_law_edge", "_law_come", "_law_k"] ["_law_books", "_law_nights"] (defScope s_Lcomes) := ⟨rfl, rfl, rfl, by decide +kernel, rfl, by decide +kernel, by decide +kernel⟩
theorem sc_Ltells : FnScope ["_law_rules", "_law_word", "_law_day_here", "_law_found", "_law_rule_here"] ["_law_rules", "_law_word", "_law_day_here"] (defScope s_Ltells) := ⟨rfl, rfl, rfl, by decide +kernel, rfl, by decide +kernel, by decide +kernel⟩
theorem sc_Lprice : FnScope ["_law_rules", "_law_begin_here", "_law_end", "_law_nights", "_law_prices", "_law_total", "_law_worth_here", "_law_bundle", "_law_night"] ["_law_rules", "_law_begin_here", "_law_end"] (defScope s_Lprice) := ⟨rfl, rfl, rfl, by decide +kernel, rfl, by decide +kernel, by decide +kernel⟩
theorem sc_Ldue : FnScope ["_law_one", "_law_other", "_law_nights", "_law_come", "_law_mine", "_law_theirs"] ["_law_one", "_law_other"] (defScope s_Ldue) := ⟨rfl, rfl, rfl, by decide +kernel, rfl, by decide +kernel, by decide +kernel⟩
theorem sc_is_whole : FnScope ["thing"] ["thing"] (defScope s_is_whole) := ⟨rfl, rfl, rfl, by decide +kernel, rfl, by decide +kernel, by decide +kernel⟩
theorem sc_is_day : FnScope ["thing"] ["thing"] (defScope s_is_day) := ⟨rfl, rfl, rfl, by decide +kernel, rfl, by decide +kernel, by decide +kernel⟩
theorem sc_is_two_days : FnScope ["thing"] ["thing"] (defScope s_is_two_days) := ⟨rfl, rfl, rfl, by decide +kernel, rfl, by decide +kernel, by decide +kernel⟩
theorem sc_is_stretch : FnScope ["thing"] ["thing"] (defScope s_is_stretch) := ⟨rfl, rfl, rfl, by decide +kernel, rfl, by decide +kernel, by decide +kernel⟩
theorem sc_Rule_init : FnScope ["self", "first", "last", "worth"] ["self", "first", "last", "worth"] (defScope s_Rule_init) := ⟨rfl, rfl, rfl, by decide +kernel, rfl, by decide +kernel, by decide +kernel⟩
theorem sc_made : FnScope ["word", "first", "last", "worth"] ["word", "first", "last", "worth"] (defScope s_made) := ⟨rfl, rfl, rfl, by decide +kernel, rfl, by decide +kernel, by decide +kernel⟩
theorem sc_is_coins : FnScope ["thing"] ["thing"] (defScope s_is_coins) := ⟨rfl, rfl, rfl, by decide +kernel, rfl, by decide +kernel, by decide +kernel⟩
theorem sc_Price_fits : FnScope ["self"] ["self"] (defScope s_Price_fits) := ⟨rfl, rfl, rfl, by decide +kernel, rfl, by decide +kernel, by decide +kernel⟩
theorem sc_Come_fits : FnScope ["self"] ["self"] (defScope s_Come_fits) := ⟨rfl, rfl, rfl, by decide +kernel, rfl, by decide +kernel, by decide +kernel⟩
theorem sc_Go_fits : FnScope ["self"] ["self"] (defScope s_Go_fits) := ⟨rfl, rfl, rfl, by decide +kernel, rfl, by decide +kernel, by decide +kernel⟩
theorem sc_is_nights : FnScope ["thing"] ["thing"] (defScope s_is_nights) := ⟨rfl, rfl, rfl, by decide +kernel, rfl, by decide +kernel, by decide +kernel⟩
theorem sc_Least_fits : FnScope ["self"] ["self"] (defScope s_Least_fits) := ⟨rfl, rfl, rfl, by decide +kernel, rfl, by decide +kernel, by decide +kernel⟩
theorem sc_Most_fits : FnScope ["self"] ["self"] (defScope s_Most_fits) := ⟨rfl, rfl, rfl, by decide +kernel, rfl, by decide +kernel, by decide +kernel⟩
theorem sc_Deal_fits : FnScope ["self", "many", "free"] ["self"] (defScope s_Deal_fits) := ⟨rfl, rfl, rfl, by decide +kernel, rfl, by decide +kernel, by decide +kernel⟩
theorem sc_Fee_fits : FnScope ["self"] ["self"] (defScope s_Fee_fits) := ⟨rfl, rfl, rfl, by decide +kernel, rfl, by decide +kernel, by decide +kernel⟩
theorem sc_rule_of : FnScope ["thing", "rule"] ["thing"] (defScope s_rule_of) := ⟨rfl, rfl, rfl, by decide +kernel, rfl, by decide +kernel, by decide +kernel⟩
theorem sc_Price_word : FnScope ["self"] ["self"] (defScope s_Price_word) := ⟨rfl, rfl, rfl, by decide +kernel, rfl, by decide +kernel, by decide +kernel⟩
theorem sc_Come_word : FnScope ["self"] ["self"] (defScope s_Come_word) := ⟨rfl, rfl, rfl, by decide +kernel, rfl, by decide +kernel, by decide +kernel⟩
theorem sc_Go_word : FnScope ["self"] ["self"] (defScope s_Go_word) := ⟨rfl, rfl, rfl, by decide +kernel, rfl, by decide +kernel, by decide +kernel⟩
theorem sc_Least_word : FnScope ["self"] ["self"] (defScope s_Least_word) := ⟨rfl, rfl, rfl, by decide +kernel, rfl, by decide +kernel, by decide +kernel⟩
theorem sc_Most_word : FnScope ["self"] ["self"] (defScope s_Most_word) := ⟨rfl, rfl, rfl, by decide +kernel, rfl, by decide +kernel, by decide +kernel⟩
theorem sc_Deal_word : FnScope ["self"] ["self"] (defScope s_Deal_word) := ⟨rfl, rfl, rfl, by decide +kernel, rfl, by decide +kernel, by decide +kernel⟩
theorem sc_Fee_word : FnScope ["self"] ["self"] (defScope s_Fee_word) := ⟨rfl, rfl, rfl, by decide +kernel, rfl, by decide +kernel, by decide +kernel⟩
theorem sc_Book_init : FnScope ["self", "rules", "things", "number", "thing", "rule"] ["self", "rules"] (defScope s_Book_init) := ⟨rfl, rfl, rfl, by decide +kernel, rfl, by decide +kernel, by decide +kernel⟩
theorem sc_Rule_told : FnScope ["self"] ["self"] (defScope s_Rule_told) := ⟨rfl, rfl, rfl, by decide +kernel, rfl, by decide +kernel, by decide +kernel⟩
theorem sc_Book_rules : FnScope ["self", "rule"] ["self"] (defScope s_Book_rules) := ⟨rfl, rfl, rfl, by decide +kernel, rfl, by decide +kernel, by decide +kernel⟩
theorem sc_backs_of : FnScope ["word", "nights"] ["word", "nights"] (defScope s_backs_of) := ⟨rfl, rfl, rfl, by decide +kernel, rfl, by decide +kernel, by decide +kernel⟩
theorem sc_comes_of : FnScope ["books", "nights", "found", "book", "word", "first", "last", "worth", "bound", "come", "back"] ["books", "nights"] (defScope s_comes_of) := ⟨rfl, rfl, rfl, by decide +kernel, rfl, by decide +kernel, by decide +kernel⟩
theorem sc_Rule_tells : FnScope ["self", "day"] ["self", "day"] (defScope s_Rule_tells) := ⟨rfl, rfl, rfl, by decide +kernel, rfl, by decide +kernel, by decide +kernel⟩
theorem sc_usual : FnScope ["word"] ["word"] (defScope s_usual) := ⟨rfl, rfl, rfl, by decide +kernel, rfl, by decide +kernel, by decide +kernel⟩
theorem sc_Book_tells_of : FnScope ["self", "word", "day", "rule"] ["self", "word", "day"] (defScope s_Book_tells_of) := ⟨rfl, rfl, rfl, by decide +kernel, rfl, by decide +kernel, by decide +kernel⟩
theorem sc_nights_of : FnScope ["stay"] ["stay"] (defScope s_nights_of) := ⟨rfl, rfl, rfl, by decide +kernel, rfl, by decide +kernel, by decide +kernel⟩
theorem sc_can_be_had : FnScope ["book", "stay", "come", "go", "night"] ["book", "stay"] (defScope s_can_be_had) := ⟨rfl, rfl, rfl, by decide +kernel, rfl, by decide +kernel, by decide +kernel⟩
theorem sc_marked : FnScope ["prices", "deal", "price", "found", "many", "free", "begin", "bundle", "back", "at"] ["prices", "deal"] (defScope s_marked) := ⟨rfl, rfl, rfl, by decide +kernel, rfl, by decide +kernel, by decide +kernel⟩
theorem sc_bill : FnScope ["book", "stay", "nights", "prices", "marks", "fee", "rows", "night", "k", "coins", "free"] ["book", "stay"] (defScope s_bill) := ⟨rfl, rfl, rfl, by decide +kernel, rfl, by decide +kernel, by decide +kernel⟩
theorem sc_coins_of : FnScope ["book", "stay"] ["book", "stay"] (defScope s_coins_of) := ⟨rfl, rfl, rfl, by decide +kernel, rfl, by decide +kernel, by decide +kernel⟩
theorem sc_apart : FnScope ["one", "other", "book", "nights", "come", "stay", "mine", "theirs"] ["one", "other"] (defScope s_apart) := ⟨rfl, rfl, rfl, by decide +kernel, rfl, by decide +kernel, by decide +kernel⟩
theorem sc_Lwhole : FnScope ["_law_found", "_law_one"] ["_law_found"] (defScope s_Lwhole) := ⟨rfl, rfl, rfl, by decide +kernel, rfl, by decide +kernel, by decide +kernel⟩
theorem sc_law : FnScope ["_law_script", "_law_cell", "_law_row", "_law_day_here", "_law_mine", "_law_theirs", "_law_due_here", "_law_one", "_law_other", "_law_found", "_law_turned_here"] ["_law_script"] (defScope s_law) := ⟨rfl, rfl, rfl, by decide +kernel, rfl, by decide +kernel, by decide +kernel⟩
theorem ok_Lbegin (T : Txt K mg) {f : Addr} {fd : FuncData} (F : FunD K "_law_begin" "_law_begin" (defArgs s_Lbegin) (defBody s_Lbegin) (defScope s_Lbegin) [] [] f fd)  : FnG P w K mg base CX0 1 f fd ["_law_cell"] (sp_Lbegin K) := by
  refine g_def F sc_Lbegin (fun vs H Q E h => ?_) (fun cdv A outer s H vs Q E hr h => ⟨t_Lbegin K, PSs.nox ?_, ?_⟩)
  · obtain ⟨_, rfl, _⟩ := h
    rfl
  · exact (pss_cons (ps_if (pt_cmpR op_ge (pv 0) (pe_op op_pow pe_int pe_int) (nomark _)) (pss_one (ps_ret (pe_lst (pa_cons (pe_op op_sub (pv 0) (pe_op op_pow pe_int pe_int)) (pa_cons pe_int pa_nil))))) pss_nil)
  (pss_one (ps_ret (pe_lst (pa_cons pe_int (pa_cons (pe_op op_add (pe_op op_mod (pv 0) pe_int) pe_int) pa_nil))))))
  · obtain ⟨_, rfl, _⟩ := id h
    exact pure_Lbegin h
theorem ok_Ltake (T : Txt K mg) {f : Addr} {fd : FuncData} (F : FunD K "_law_take" "_law_take" (defArgs s_Ltake) (defBody s_Ltake) (defScope s_Ltake) [] [] f fd)  : FnG P w K mg base CX0 1 f fd ["_law_row", "_law_base"] (sp_Ltake K) := by
  refine g_def F sc_Ltake (fun vs H Q E h => ?_) (fun cdv A outer s H vs Q E hr h => ⟨t_Ltake K, PSs.nox ?_, ?_⟩)
  · obtain ⟨_, _, rfl, _⟩ := h
    rfl
  · exact (pss_cons (ps_if (pt_cmpR op_gt (pe_ix ix_list (pv 0) pe_int (fun _ _ => rfl)) pe_int (nomark _)) (pss_cons (ps_set (i := 2) sc_Ltake.nd rfl (Or.inl rfl) (pe_op op_mod (pe_ix ix_list (pv 0) pe_int (fun _ _ => rfl)) (pv 1)))
  (pss_cons (ps_asg (pe_op op_fdivW (pe_ix ix_list (pv 0) pe_int (fun _ _ => rfl)) (pv 1)) (pg_sub (pv 0) pe_int set_list))
  (pss_one (ps_ret (pv 2))))) pss_nil)
  (pss_cons (ps_asg (pe_op op_mod (pe_op op_add (pe_op op_mul (pe_ix ix_list (pv 0) pe_int (fun _ _ => rfl)) pe_int) pe_int) pe_int) (pg_sub (pv 0) pe_int set_list))
  (pss_cons (ps_set (i := 3) sc_Ltake.nd rfl (Or.inl rfl) (pe_op op_mod (pe_op op_add (pe_op op_add (pe_op op_mul (pe_ix ix_list (pv 0) pe_int (fun _ _ => rfl)) (pe_ix ix_list (pv 0) pe_int (fun _ _ => rfl))) (pe_op op_mul pe_int (pe_ix ix_list (pv 0) pe_int (fun _ _ => rfl)))) pe_int) pe_int))
  (pss_one (ps_ret (pe_op op_mod (pe_op op_fdivW (pv 3) pe_int) (pv 1)))))))
  · obtain ⟨_, _, rfl, _⟩ := id h
    exact pure_Ltake h
theorem ok_Lday (T : Txt K mg) {f : Addr} {fd : FuncData} (F : FunD K "_law_day" "_law_day" (defArgs s_Lday) (defBody s_Lday) (defScope s_Lday) [] [] f fd) (c_Ltake : Y.Cal P w K mg base CX0 1 "_law_take" (sp_Ltake K) []) : FnG P w K mg base CX0 2 f fd ["_law_row"] (sp_Lday K) := by
  refine g_def F sc_Lday (fun vs H Q E h => ?_) (fun cdv A outer s H vs Q E hr h => ⟨t_Lday K, PSs.nox ?_, ?_⟩)
  · obtain ⟨_, rfl, _⟩ := h
    rfl
  · exact (pss_one (ps_ret (pe_ix ix_list (pe_lst (pa_cons pe_int (pa_cons (Y.pe_c c_Ltake hr (by decide) rfl pass0 (pa_cons (pv 0) (pa_cons pe_int pa_nil))) (pa_cons pe_int (pa_cons (pe_op op_add pe_int (Y.pe_c c_Ltake hr (by decide) rfl pass0 (pa_cons (pv 0) (pa_cons pe_int pa_nil)))) (pa_cons (Y.pe_c c_Ltake hr (by decide) rfl pass0 (pa_cons (pv 0) (pa_cons pe_int pa_nil))) pa_nil)))))) (Y.pe_c c_Ltake hr (by decide) rfl pass0 (pa_cons (pv 0) (pa_cons pe_int pa_nil))) (fun _ _ => rfl))))
  · obtain ⟨_, rfl, _⟩ := id h
    exact pure_Lday h
theorem ok_Llong (T : Txt K mg) {f : Addr} {fd : FuncData} (F : FunD K "_law_long" "_law_long" (defArgs s_Llong) (defBody s_Llong) (defScope s_Llong) [] [] f fd) (c_Ltake : Y.Cal P w K mg base CX0 1 "_law_take" (sp_Ltake K) []) : FnG P w K mg base CX0 2 f fd ["_law_row", "_law_day_here"] (sp_Llong K) := by
  refine g_def F sc_Llong (fun vs H Q E h => ?_) (fun cdv A outer s H vs Q E hr h => ⟨t_Llong K, PSs.nox ?_, ?_⟩)
  · obtain ⟨_, _, rfl, _⟩ := h
    rfl
  · exact (pss_cons (ps_set (i := 2) sc_Llong.nd rfl (Or.inr rfl) (pe_callB (call_min2 rfl) (by rfl) T.b_min (by decide +kernel) (pa_cons (pe_op op_sub (pe_op op_pow pe_int pe_int) pe_int) (pa_cons (pe_callB (call_max2 rfl) (by rfl) T.b_max (by decide +kernel) (pa_cons pe_int (pa_cons (pe_op op_sub (pv 1) pe_int) pa_nil))) pa_nil))))
  (pss_cons (ps_set (i := 3) sc_Llong.nd rfl (Or.inl rfl) (pe_lst (pa_cons (pe_tup (pa_cons pe_str (pa_cons (pv 2) (pa_cons (pe_op op_add (pv 2) pe_int) (pa_cons (pe_op op_add (Y.pe_c c_Ltake hr (by decide) rfl pass0 (pa_cons (pv 0) (pa_cons pe_int pa_nil))) pe_int) pa_nil))))) pa_nil)))
  (pss_cons (ps_set (i := 4) sc_Llong.nd rfl (Or.inl rfl) (pe_op op_add (pv 2) (Y.pe_c c_Ltake hr (by decide) rfl pass0 (pa_cons (pv 0) (pa_cons pe_int pa_nil)))))
  (pss_cons (ps_set (i := 5) sc_Llong.nd rfl (Or.inl rfl) (pe_lst (pa_cons (pe_lst (pa_cons (pe_tup (pa_cons pe_str (pa_cons (pv 4) (pa_cons (pv 4) (pa_cons pe_int pa_nil))))) pa_nil)) (pa_cons (pe_lst (pa_cons (pe_tup (pa_cons pe_str (pa_cons (pv 4) (pa_cons (pv 4) (pa_cons pe_int pa_nil))))) pa_nil)) (pa_cons (pe_lst (pa_cons (pe_tup (pa_cons pe_str (pa_cons (pv 4) (pa_cons (pe_op op_add (pv 4) pe_int) (pa_cons (pe_tup (pa_cons pe_int (pa_cons pe_int pa_nil))) pa_nil))))) pa_nil)) (pa_cons (pe_lst pa_nil) pa_nil))))))
  (pss_cons (ps_set (i := 6) sc_Llong.nd rfl (Or.inl rfl) (pe_lst (pa_cons (pe_lst pa_nil) (pa_cons (pe_lst (pa_cons (pe_tup (pa_cons pe_str (pa_cons (pv 4) (pa_cons (pv 4) (pa_cons pe_int pa_nil))))) pa_nil)) (pa_cons (pe_lst (pa_cons (pe_tup (pa_cons pe_str (pa_cons (pv 4) (pa_cons (pe_op op_add (pv 4) pe_int) (pa_cons (pe_tup (pa_cons pe_int (pa_cons pe_int pa_nil))) pa_nil))))) pa_nil)) (pa_cons (pe_lst pa_nil) pa_nil))))))
  (pss_cons (ps_set (i := 7) sc_Llong.nd rfl (Or.inl rfl) (Y.pe_c c_Ltake hr (by decide) rfl pass0 (pa_cons (pv 0) (pa_cons pe_int pa_nil))))
  (pss_cons (ps_setLc (i := 8) (own := [("_law_k", 9)]) (g := (gName 9)) (tt := tYes) rfl sc_Llong.nd rfl rfl (sw_true rfl rfl rfl (by decide +kernel)) (pi_range1 rfl T.b_range (pa_cons (Y.pe_c c_Ltake hr (by decide) rfl pass0 (pa_cons (pv 0) (pa_cons pe_int pa_nil))) pa_nil)) (blkOk_by (own := [("_law_k", 9)]) (N := ["_law_row", "_law_day_here", "_law_first", "_law_rules", "_law_come", "_law_few_here", "_law_many", "_law_way", "_law_hidden", "_law_k"]) (sc := defScope s_Llong) (by decide +kernel)) (fun _ _ _ _ _ => (pg_name (i := 9) sc_Llong.nd rfl (Or.inl rfl))) (fun _ _ _ _ _ => pts_nil) (fun _ _ _ _ _ => (pe_tup (pa_cons pe_str (pa_cons (pe_op op_add pe_int (pe_op op_mul pe_int (pv 9))) (pa_cons (pe_op op_add pe_int (pe_op op_mul pe_int (pv 9))) (pa_cons (pe_op op_add pe_int (pv 9)) pa_nil)))))))
  (pss_cons (ps_if (pt_cmpR op_eq (Y.pe_c c_Ltake hr (by decide) rfl pass0 (pa_cons (pv 0) (pa_cons pe_int pa_nil))) pe_int (nomark _)) (pss_one (ps_setLc (i := 8) (own := [("_law_k", 9)]) (g := (gName 9)) (tt := tYes) rfl sc_Llong.nd rfl rfl (sw_true rfl rfl rfl (by decide +kernel)) (pi_range1 rfl T.b_range (pa_cons (pe_callB call_len_seq (by rfl) T.b_len (by decide +kernel) (pa_cons (pv 8) pa_nil)) pa_nil)) (blkOk_by (own := [("_law_k", 9)]) (N := ["_law_row", "_law_day_here", "_law_first", "_law_rules", "_law_come", "_law_few_here", "_law_many", "_law_way", "_law_hidden", "_law_k"]) (sc := defScope s_Llong) (by decide +kernel)) (fun _ _ _ _ _ => (pg_name (i := 9) sc_Llong.nd rfl (Or.inl rfl))) (fun _ _ _ _ _ => pts_nil) (fun _ _ _ _ _ => (pe_tup (pa_cons pe_str (pa_cons (pv 2) (pa_cons (pe_op op_add (pv 2) pe_int) (pa_cons (pv 9) pa_nil)))))))) pss_nil)
  (pss_one (ps_ret (pe_tup (pa_cons (pe_op op_cat (pe_op op_cat (pv 8) (pv 3)) (pe_ix ix_list (pv 5) (pv 7) (fun _ _ => rfl))) (pa_cons (pe_op op_cat (pe_op op_cat (pv 8) (pv 3)) (pe_ix ix_list (pv 6) (pv 7) (fun _ _ => rfl))) pa_nil)))))))))))))
  · obtain ⟨_, _, rfl, _⟩ := id h
    exact pure_Llong h
theorem ok_Lcoins (T : Txt K mg) {f : Addr} {fd : FuncData} (F : FunD K "_law_coins" "_law_coins" (defArgs s_Lcoins) (defBody s_Lcoins) (defScope s_Lcoins) [] [] f fd) (c_Ltake : Y.Cal P w K mg base CX0 1 "_law_take" (sp_Ltake K) []) : FnG P w K mg base CX0 2 f fd ["_law_row"] (sp_Lcoins K) := by
  refine g_def F sc_Lcoins (fun vs H Q E h => ?_) (fun cdv A outer s H vs Q E hr h => ⟨t_Lcoins K, PSs.nox ?_, ?_⟩)
  · obtain ⟨_, rfl, _⟩ := h
    rfl
  · exact (pss_cons (ps_set (i := 1) sc_Lcoins.nd rfl (Or.inl rfl) (Y.pe_c c_Ltake hr (by decide) rfl pass0 (pa_cons (pv 0) (pa_cons pe_int pa_nil))))
  (pss_cons (ps_set (i := 2) sc_Lcoins.nd rfl (Or.inl rfl) (pe_op op_mul pe_int (Y.pe_c c_Ltake hr (by decide) rfl pass0 (pa_cons (pv 0) (pa_cons pe_int pa_nil)))))
  (pss_cons (ps_set (i := 3) sc_Lcoins.nd rfl (Or.inl rfl) (pe_op op_add (pe_op op_mul (Y.pe_c c_Ltake hr (by decide) rfl pass0 (pa_cons (pv 0) (pa_cons (pe_op op_pow pe_int pe_int) pa_nil))) (pe_op op_pow pe_int pe_int)) (Y.pe_c c_Ltake hr (by decide) rfl pass0 (pa_cons (pv 0) (pa_cons (pe_op op_pow pe_int pe_int) pa_nil)))))
  (pss_one (ps_ret (pe_ix ix_list (pe_lst (pa_cons (pv 1) (pa_cons (pv 2) (pa_cons (pe_op op_add (pv 1) (pe_op op_mul pe_int (pv 2))) (pa_cons (pv 3) (pa_cons (pe_op op_pow pe_int pe_int) pa_nil)))))) (pe_op op_fdivW (Y.pe_c c_Ltake hr (by decide) rfl pass0 (pa_cons (pv 0) (pa_cons pe_int pa_nil))) pe_int) (fun _ _ => rfl)))))))
  · obtain ⟨_, rfl, _⟩ := id h
    exact pure_Lcoins h
theorem ok_Lworth (T : Txt K mg) {f : Addr} {fd : FuncData} (F : FunD K "_law_worth" "_law_worth" (defArgs s_Lworth) (defBody s_Lworth) (defScope s_Lworth) [] [] f fd) (c_Ltake : Y.Cal P w K mg base CX0 1 "_law_take" (sp_Ltake K) []) (c_Lcoins : Y.Cal P w K mg base CX0 2 "_law_coins" (sp_Lcoins K) []) : FnG P w K mg base CX0 3 f fd ["_law_row", "_law_word"] (sp_Lworth K) := by
  refine g_def F sc_Lworth (fun vs H Q E h => ?_) (fun cdv A outer s H vs Q E hr h => ⟨t_Lworth K, PSs.nox ?_, ?_⟩)
  · obtain ⟨_, _, rfl, _⟩ := h
    rfl
  · exact (pss_cons (ps_if (pt_cmpR op_in_seq (pv 1) (pe_tup (pa_cons pe_str (pa_cons pe_str pa_nil))) (by rfl)) (pss_one (ps_ret (pe_cmpR op_eq (Y.pe_c c_Ltake hr (by decide) rfl pass0 (pa_cons (pv 0) (pa_cons pe_int pa_nil))) pe_int (nomark _)))) pss_nil)
  (pss_cons (ps_if (pt_cmpR op_in_seq (pv 1) (pe_tup (pa_cons pe_str (pa_cons pe_str pa_nil))) (by rfl)) (pss_one (ps_ret (pe_op op_add pe_int (Y.pe_c c_Ltake hr (by decide) rfl pass0 (pa_cons (pv 0) (pa_cons (pe_ix ix_list (pe_lst (pa_cons pe_int (pa_cons pe_int pa_nil))) (Y.pe_c c_Ltake hr (by decide) rfl pass0 (pa_cons (pv 0) (pa_cons pe_int pa_nil))) (fun _ _ => rfl)) pa_nil)))))) pss_nil)
  (pss_cons (ps_if (pt_cmpR op_eq (pv 1) pe_str (nomark _)) (pss_cons (ps_set (i := 2) sc_Lworth.nd rfl (Or.inl rfl) (pe_op op_add pe_int (Y.pe_c c_Ltake hr (by decide) rfl pass0 (pa_cons (pv 0) (pa_cons (pe_ix ix_list (pe_lst (pa_cons pe_int (pa_cons pe_int pa_nil))) (Y.pe_c c_Ltake hr (by decide) rfl pass0 (pa_cons (pv 0) (pa_cons pe_int pa_nil))) (fun _ _ => rfl)) pa_nil)))))
  (pss_cons (ps_set (i := 3) sc_Lworth.nd rfl (Or.inl rfl) (pe_op op_add pe_int (Y.pe_c c_Ltake hr (by decide) rfl pass0 (pa_cons (pv 0) (pa_cons (pe_op op_sub (pv 2) pe_int) pa_nil)))))
  (pss_one (ps_ret (pe_ix ix_list (pe_lst (pa_cons (pe_tup (pa_cons (pv 2) (pa_cons (pv 3) pa_nil))) (pa_cons (pe_tup (pa_cons (pv 2) (pa_cons (pv 3) pa_nil))) (pa_cons pe_non pa_nil)))) (Y.pe_c c_Ltake hr (by decide) rfl pass0 (pa_cons (pv 0) (pa_cons pe_int pa_nil))) (fun _ _ => rfl)))))) pss_nil)
  (pss_cons (ps_set (i := 4) sc_Lworth.nd rfl (Or.inl rfl) (Y.pe_c c_Lcoins hr (by decide) rfl pass0 (pa_cons (pv 0) pa_nil)))
  (pss_cons (ps_if (PW.pt (pw_and (pt_cmpR op_eq (pv 1) pe_str (nomark _)) (pw_and1 (pt_cmpR op_eq (Y.pe_c c_Ltake hr (by decide) rfl pass0 (pa_cons (pv 0) (pa_cons pe_int pa_nil))) pe_int (nomark _))))) (pss_one (ps_ret pe_non)) pss_nil)
  (pss_one (ps_ret (pv 4))))))))
  · obtain ⟨_, _, rfl, _⟩ := id h
    exact pure_Lworth h
theorem ok_Lrule (T : Txt K mg) {f : Addr} {fd : FuncData} (F : FunD K "_law_rule" "_law_rule" (defArgs s_Lrule) (defBody s_Lrule) (defScope s_Lrule) [] [] f fd) (c_Ltake : Y.Cal P w K mg base CX0 1 "_law_take" (sp_Ltake K) []) (c_Lworth : Y.Cal P w K mg base CX0 3 "_law_worth" (sp_Lworth K) []) : FnG P w K mg base CX0 4 f fd ["_law_row", "_law_day_here"] (sp_Lrule K) := by
  refine g_def F sc_Lrule (fun vs H Q E h => ?_) (fun cdv A outer s H vs Q E hr h => ⟨t_Lrule K, PSs.nox ?_, ?_⟩)
  · obtain ⟨_, _, rfl, _⟩ := h
    rfl
  · exact (pss_cons (ps_set (i := 2) sc_Lrule.nd rfl (Or.inl rfl) (pe_ix ix_list (pe_lst (pa_cons pe_str (pa_cons pe_str (pa_cons pe_str (pa_cons pe_str (pa_cons pe_str (pa_cons pe_str (pa_cons pe_str (pa_cons pe_str (pa_cons pe_str pa_nil)))))))))) (Y.pe_c c_Ltake hr (by decide) rfl pass0 (pa_cons (pv 0) (pa_cons pe_int pa_nil))) (fun _ _ => rfl)))
  (pss_cons (ps_set (i := 3) sc_Lrule.nd rfl (Or.inl rfl) (pe_ix ix_list (pe_lst (pa_cons (pe_op op_sub (Y.pe_c c_Ltake hr (by decide) rfl pass0 (pa_cons (pv 0) (pa_cons pe_int pa_nil))) pe_int) (pa_cons (Y.pe_c c_Ltake hr (by decide) rfl pass0 (pa_cons (pv 0) (pa_cons pe_int pa_nil))) (pa_cons (pe_un un_neg (pv 1)) (pa_cons pe_int pa_nil))))) (Y.pe_c c_Ltake hr (by decide) rfl pass0 (pa_cons (pv 0) (pa_cons pe_int pa_nil))) (fun _ _ => rfl)))
  (pss_cons (ps_set (i := 4) sc_Lrule.nd rfl (Or.inl rfl) (pe_callB (call_min2 rfl) (by rfl) T.b_min (by decide +kernel) (pa_cons (pe_op op_pow pe_int pe_int) (pa_cons (pe_callB (call_max2 rfl) (by rfl) T.b_max (by decide +kernel) (pa_cons pe_int (pa_cons (pe_op op_add (pv 1) (pv 3)) pa_nil))) pa_nil))))
  (pss_cons (ps_set (i := 5) sc_Lrule.nd rfl (Or.inl rfl) (pe_op op_add (pv 4) (pe_ix ix_list (pe_lst (pa_cons pe_int (pa_cons (Y.pe_c c_Ltake hr (by decide) rfl pass0 (pa_cons (pv 0) (pa_cons pe_int pa_nil))) (pa_cons (Y.pe_c c_Ltake hr (by decide) rfl pass0 (pa_cons (pv 0) (pa_cons pe_int pa_nil))) (pa_cons pe_int (pa_cons (pe_op op_pow pe_int pe_int) pa_nil)))))) (Y.pe_c c_Ltake hr (by decide) rfl pass0 (pa_cons (pv 0) (pa_cons pe_int pa_nil))) (fun _ _ => rfl))))
  (pss_one (ps_ret (pe_tup (pa_cons (pv 2) (pa_cons (pv 4) (pa_cons (pe_callB (call_min2 rfl) (by rfl) T.b_min (by decide +kernel) (pa_cons (pe_op op_pow pe_int pe_int) (pa_cons (pv 5) pa_nil))) (pa_cons (Y.pe_c c_Lworth hr (by decide) rfl pass0 (pa_cons (pv 0) (pa_cons (pv 2) pa_nil))) pa_nil)))))))))))
  · obtain ⟨_, _, rfl, _⟩ := id h
    exact pure_Lrule h
theorem ok_Lfew (T : Txt K mg) {f : Addr} {fd : FuncData} (F : FunD K "_law_few" "_law_few" (defArgs s_Lfew) (defBody s_Lfew) (defScope s_Lfew) [] [] f fd) (c_Ltake : Y.Cal P w K mg base CX0 1 "_law_take" (sp_Ltake K) []) (c_Lrule : Y.Cal P w K mg base CX0 4 "_law_rule" (sp_Lrule K) []) : FnG P w K mg base CX0 5 f fd ["_law_row", "_law_day_here", "_law_most"] (sp_Lfew K) := by
  refine g_def F sc_Lfew (fun vs H Q E h => ?_) (fun cdv A outer s H vs Q E hr h => ⟨t_Lfew K, PSs.nox ?_, ?_⟩)
  · obtain ⟨_, _, _, rfl, _⟩ := h
    rfl
  · exact (pss_cons (ps_set (i := 3) sc_Lfew.nd rfl (Or.inl rfl) (pe_lst pa_nil))
  (pss_cons (ps_if (pt_cmpR op_eq (Y.pe_c c_Ltake hr (by decide) rfl pass0 (pa_cons (pv 0) (pa_cons pe_int pa_nil))) pe_int (nomark _)) (pss_one (ps_ret (pe_lst (pa_cons (pe_tup (pa_cons pe_str (pa_cons pe_int (pa_cons (pe_op op_pow pe_int pe_int) (pa_cons pe_int pa_nil))))) pa_nil)))) pss_nil)
  (pss_cons (ps_if (pt_cmpR op_gt (Y.pe_c c_Ltake hr (by decide) rfl pass0 (pa_cons (pv 0) (pa_cons pe_int pa_nil))) pe_int (nomark _)) (pss_one (ps_expr (pe_bm PySem.F.plainAttrs_list PySem.F.slot_list_append PySem.F.type_list_append mt_append (pv 3) (pa_cons (pe_tup (pa_cons pe_str (pa_cons (pe_callB (call_max2 rfl) (by rfl) T.b_max (by decide +kernel) (pa_cons pe_int (pa_cons (pe_op op_sub (pv 1) pe_int) pa_nil))) (pa_cons (pe_callB (call_min2 rfl) (by rfl) T.b_min (by decide +kernel) (pa_cons (pe_op op_pow pe_int pe_int) (pa_cons (pe_op op_add (pv 1) pe_int) pa_nil))) (pa_cons (pe_op op_add (Y.pe_c c_Ltake hr (by decide) rfl pass0 (pa_cons (pv 0) (pa_cons pe_int pa_nil))) pe_int) pa_nil))))) pa_nil)))) pss_nil)
  (pss_cons (ps_for PassesOwn.never rfl (pi_range1 rfl T.b_range (pa_cons (Y.pe_c c_Ltake hr (by decide) rfl pass0 (pa_cons (pv 0) (pa_cons (pe_op op_add (pv 2) pe_int) pa_nil))) pa_nil)) (pg_name (i := 4) sc_Lfew.nd rfl (Or.inl rfl)) (pss_one (ps_expr (pe_bm PySem.F.plainAttrs_list PySem.F.slot_list_append PySem.F.type_list_append mt_append (pv 3) (pa_cons (Y.pe_c c_Lrule hr (by decide) rfl pass0 (pa_cons (pv 0) (pa_cons (pv 1) pa_nil))) pa_nil)))))
  (pss_one (ps_ret (pv 3)))))))
  · obtain ⟨_, _, _, rfl, _⟩ := id h
    exact pure_Lfew h
theorem ok_Lturned (T : Txt K mg) {f : Addr} {fd : FuncData} (F : FunD K "_law_turned" "_law_turned" (defArgs s_Lturned) (defBody s_Lturned) (defScope s_Lturned) [] [] f fd) (c_Ltake : Y.Cal P w K mg base CX0 1 "_law_take" (sp_Ltake K) []) (c_Lrule : Y.Cal P w K mg base CX0 4 "_law_rule" (sp_Lrule K) []) (c_Lworth : Y.Cal P w K mg base CX0 3 "_law_worth" (sp_Lworth K) []) : FnG P w K mg base CX0 5 f fd ["_law_row", "_law_rules", "_law_day_here"] (sp_Lturned K) := by
  refine g_def F sc_Lturned (fun vs H Q E h => ?_) (fun cdv A outer s H vs Q E hr h => ⟨t_Lturned K, PSs.nox ?_, ?_⟩)
  · obtain ⟨_, _, _, rfl, _⟩ := h
    rfl
  · exact (pss_cons (ps_set (i := 3) sc_Lturned.nd rfl (Or.inl rfl) (pe_callTy call_list_of (by rfl) T.b_list (by decide +kernel) (pa_cons (pv 1) pa_nil)))
  (pss_cons (ps_set (i := 4) sc_Lturned.nd rfl (Or.inl rfl) (Y.pe_c c_Ltake hr (by decide) rfl pass0 (pa_cons (pv 0) (pa_cons (pe_op op_add (pe_callB call_len_seq (by rfl) T.b_len (by decide +kernel) (pa_cons (pv 3) pa_nil)) pe_int) pa_nil))))
  (pss_cons (ps_set (i := 5) sc_Lturned.nd rfl (Or.inl rfl) (Y.pe_c c_Ltake hr (by decide) rfl pass0 (pa_cons (pv 0) (pa_cons pe_int pa_nil))))
  (pss_cons (ps_if (PW.pt (pw_or (pt_cmpR op_eq (pv 5) pe_int (nomark _)) (pw_or1 (pt_cmpR (op_eqD hr.units) (pv 3) (pe_lst pa_nil) (nomark _))))) (pss_one (ps_expr (pe_bm PySem.F.plainAttrs_list PySem.F.slot_list_insert PySem.F.type_list_insert mt_insert (pv 3) (pa_cons (pv 4) (pa_cons (Y.pe_c c_Lrule hr (by decide) rfl pass0 (pa_cons (pv 0) (pa_cons (pv 2) pa_nil))) pa_nil))))) (pss_one (ps_if (PW.pt (pw_and (pt_cmpR op_eq (pv 5) pe_int (nomark _)) (pw_and1 (pt_cmpR op_lt (pv 4) (pe_callB call_len_seq (by rfl) T.b_len (by decide +kernel) (pa_cons (pv 3) pa_nil)) (nomark _))))) (pss_one (ps_expr (pe_bm PySem.F.plainAttrs_list PySem.F.slot_list_pop PySem.F.type_list_pop mt_popAt (pv 3) (pa_cons (pv 4) pa_nil)))) (pss_one (ps_if (pt_cmpR op_eq (pv 5) pe_int (nomark _)) (pss_one (ps_expr (pe_bm PySem.F.plainAttrs_list PySem.F.slot_list_append PySem.F.type_list_append mt_append (pv 3) (pa_cons (pe_ix ix_list (pv 3) (Y.pe_c c_Ltake hr (by decide) rfl pass0 (pa_cons (pv 0) (pa_cons (pe_callB call_len_seq (by rfl) T.b_len (by decide +kernel) (pa_cons (pv 3) pa_nil)) pa_nil))) (fun _ _ => rfl)) pa_nil)))) (pss_one (ps_if (PW.pt (pw_and (pt_cmpR op_eq (pv 5) pe_int (nomark _)) (pw_and1 (pt_cmpR op_lt (pv 4) (pe_callB call_len_seq (by rfl) T.b_len (by decide +kernel) (pa_cons (pv 3) pa_nil)) (nomark _))))) (pss_cons (ps_asg (pe_ix ix_list (pv 3) (pv 4) (fun _ _ => rfl)) (pg_tup (by rfl) (pgs_cons (pg_name (i := 6) sc_Lturned.nd rfl (Or.inl rfl)) (pgs_cons (pg_name (i := 7) sc_Lturned.nd rfl (Or.inl rfl)) (pgs_cons (pg_name (i := 8) sc_Lturned.nd rfl (Or.inl rfl)) (pgs_cons (pg_name (i := 9) sc_Lturned.nd rfl (Or.inl rfl)) pgs_nil))))))
  (pss_one (ps_asg (pe_tup (pa_cons (pv 6) (pa_cons (pv 7) (pa_cons (pe_callB (call_max2 rfl) (by rfl) T.b_max (by decide +kernel) (pa_cons (pv 7) (pa_cons (pe_op op_sub (pv 8) (Y.pe_c c_Ltake hr (by decide) rfl pass0 (pa_cons (pv 0) (pa_cons pe_int pa_nil)))) pa_nil))) (pa_cons (Y.pe_c c_Lworth hr (by decide) rfl pass0 (pa_cons (pv 0) (pa_cons (pv 6) pa_nil))) pa_nil))))) (pg_sub (pv 3) (pv 4) set_list)))) (pss_one (ps_if (pt_cmpR op_eq (pv 5) pe_int (nomark _)) (pss_cons (ps_set (i := 10) sc_Lturned.nd rfl (Or.inl rfl) (Y.pe_c c_Ltake hr (by decide) rfl pass0 (pa_cons (pv 0) (pa_cons (pe_callB call_len_seq (by rfl) T.b_len (by decide +kernel) (pa_cons (pv 3) pa_nil)) pa_nil))))
  (pss_cons (ps_set (i := 11) sc_Lturned.nd rfl (Or.inl rfl) (Y.pe_c c_Ltake hr (by decide) rfl pass0 (pa_cons (pv 0) (pa_cons (pe_callB call_len_seq (by rfl) T.b_len (by decide +kernel) (pa_cons (pv 3) pa_nil)) pa_nil))))
  (pss_one (ps_asg (pe_tup (pa_cons (pe_ix ix_list (pv 3) (pv 11) (fun _ _ => rfl)) (pa_cons (pe_ix ix_list (pv 3) (pv 10) (fun _ _ => rfl)) pa_nil))) (pg_tup (by rfl) (pgs_cons (pg_sub (pv 3) (pv 10) set_list) (pgs_cons (pg_sub (pv 3) (pv 11) set_list) pgs_nil))))))) pss_nil)))))))))
  (pss_one (ps_ret (pv 3)))))))
  · obtain ⟨_, _, _, rfl, _⟩ := id h
    exact pure_Lturned h
theorem ok_Ltwo (T : Txt K mg) {f : Addr} {fd : FuncData} (F : FunD K "_law_two" "_law_two" (defArgs s_Ltwo) (defBody s_Ltwo) (defScope s_Ltwo) [] [] f fd) (c_Ltake : Y.Cal P w K mg base CX0 1 "_law_take" (sp_Ltake K) []) (c_Llong : Y.Cal P w K mg base CX0 2 "_law_long" (sp_Llong K) []) (c_Lfew : Y.Cal P w K mg base CX0 5 "_law_few" (sp_Lfew K) []) (c_Lturned : Y.Cal P w K mg base CX0 5 "_law_turned" (sp_Lturned K) []) : FnG P w K mg base CX0 6 f fd ["_law_row", "_law_day_here"] (sp_Ltwo K) := by
  refine g_def F sc_Ltwo (fun vs H Q E h => ?_) (fun cdv A outer s H vs Q E hr h => ⟨t_Ltwo K, PSs.nox ?_, ?_⟩)
  · obtain ⟨_, _, rfl, _⟩ := h
    rfl
  · exact (pss_cons (ps_if (pt_cmpR op_eq (Y.pe_c c_Ltake hr (by decide) rfl pass0 (pa_cons (pv 0) (pa_cons pe_int pa_nil))) pe_int (nomark _)) (pss_one (ps_ret (Y.pe_c c_Llong hr (by decide) rfl pass0 (pa_cons (pv 0) (pa_cons (pv 1) pa_nil))))) pss_nil)
  (pss_cons (ps_set (i := 2) sc_Ltwo.nd rfl (Or.inl rfl) (Y.pe_c c_Lfew hr (by decide) rfl pass0 (pa_cons (pv 0) (pa_cons (pv 1) (pa_cons pe_int pa_nil)))))
  (pss_cons (ps_if (pt_cmpR op_gt (Y.pe_c c_Ltake hr (by decide) rfl pass0 (pa_cons (pv 0) (pa_cons pe_int pa_nil))) pe_int (nomark _)) (pss_one (ps_ret (pe_tup (pa_cons (pv 2) (pa_cons (Y.pe_c c_Lturned hr (by decide) rfl pass0 (pa_cons (pv 0) (pa_cons (pv 2) (pa_cons (pv 1) pa_nil)))) pa_nil))))) pss_nil)
  (pss_one (ps_ret (pe_tup (pa_cons (pv 2) (pa_cons (Y.pe_c c_Lfew hr (by decide) rfl pass0 (pa_cons (pv 0) (pa_cons (pv 1) (pa_cons pe_int pa_nil)))) pa_nil))))))))
  · obtain ⟨_, _, rfl, _⟩ := id h
    exact pure_Ltwo h
theorem ok_Lcomes (T : Txt K mg) {f : Addr} {fd : FuncData} (F : FunD K "_law_comes" "_law_comes" (defArgs s_Lcomes) (defBody s_Lcomes) (defScope s_Lcomes) [] [] f fd)  : FnG P w K mg base CX0 1 f fd ["_law_books", "_law_nights"] (sp_Lcomes K) := by
  refine g_def F sc_Lcomes (fun vs H Q E h => ?_) (fun cdv A outer s H vs Q E hr h => ⟨t_Lcomes K, PSs.nox ?_, ?_⟩)
  · obtain ⟨_, _, rfl, _⟩ := h
    rfl
  · exact (pss_cons (ps_set (i := 2) sc_Lcomes.nd rfl (Or.inl rfl) (pe_lst (pa_cons pe_int pa_nil)))
  (pss_cons (ps_for PassesOwn.never rfl (pi_list (pv 0)) (pg_name (i := 3) sc_Lcomes.nd rfl (Or.inl rfl)) (pss_one (ps_for PassesOwn.never rfl (pi_list (pv 3)) (pg_tup (by rfl) (pgs_cons (pg_name (i := 4) sc_Lcomes.nd rfl (Or.inl rfl)) (pgs_cons (pg_name (i := 5) sc_Lcomes.nd rfl (Or.inl rfl)) (pgs_cons (pg_name (i := 6) sc_Lcomes.nd rfl (Or.inl rfl)) (pgs_cons (pg_name (i := 7) sc_Lcomes.nd rfl (Or.inl rfl)) pgs_nil))))) (pss_one (ps_for PassesOwn.never rfl (pi_tup (pe_tup (pa_cons (pv 5) (pa_cons (pe_op op_add (pv 6) pe_int) pa_nil)))) (pg_name (i := 8) sc_Lcomes.nd rfl (Or.inr rfl)) (pss_one (ps_expr (pe_bm PySem.F.plainAttrs_list PySem.F.slot_list_extend PySem.F.type_list_extend mt_extend (pv 2) (pa_cons (pe_lc (own := [("_law_k", 10)]) (g := (gName 10)) (tt := tYes) rfl sc_Lcomes.nd (pi_range1 rfl T.b_range (pa_cons (pe_op op_add (pv 1) pe_int) pa_nil)) (blkOk_by (own := [("_law_k", 10)]) (N := ["_law_books", "_law_nights", "_law_days", "_law_rules", "_law_word", "_law_first", "_law_last", "_law_worth_here", "_law_edge", "_law_come", "_law_k"]) (sc := defScope s_Lcomes) (by decide +kernel)) (fun _ _ _ _ _ => (pg_name (i := 10) sc_Lcomes.nd rfl (Or.inl rfl))) (fun _ _ _ _ _ => pts_nil) (fun _ _ _ _ _ => (pe_op op_add (pe_op op_sub (pv 8) (pv 1)) (pv 10)))) pa_nil)))))))))
  (pss_one (ps_ret (pe_lc (own := [("_law_come", 9)]) (g := (gName 9)) (tt := (tTest (tChain rLe rLe (tC (.int 0)) (tVar 9) (tOp rSub (tOp rPow (tC (.int 10)) (tC (.int 6))) (tVar 1))))) rfl sc_Lcomes.nd (pi_list (Y.pe_sortSet (by rfl) T.b_sorted (by rfl) T.b_set (pv 2))) (blkOk_by (own := [("_law_come", 9)]) (N := ["_law_books", "_law_nights", "_law_days", "_law_rules", "_law_word", "_law_first", "_law_last", "_law_worth_here", "_law_edge", "_law_come", "_law_k"]) (sc := defScope s_Lcomes) (by decide +kernel)) (fun _ _ _ _ _ => (pg_name (i := 9) sc_Lcomes.nd rfl (Or.inl rfl))) (fun _ _ _ _ _ => (pts_one (pt_chain op_le op_le pe_int (pv 9) (pe_op op_sub (pe_op op_pow pe_int pe_int) (pv 1))))) (fun _ _ _ _ _ => (pv 9)))))))
  · obtain ⟨_, _, rfl, _⟩ := id h
    exact pure_Lcomes h
theorem ok_Ltells (T : Txt K mg) {f : Addr} {fd : FuncData} (F : FunD K "_law_tells" "_law_tells" (defArgs s_Ltells) (defBody s_Ltells) (defScope s_Ltells) [] [] f fd)  : FnG P w K mg base CX0 1 f fd ["_law_rules", "_law_word", "_law_day_here"] (sp_Ltells K) := by
  refine g_def F sc_Ltells (fun vs H Q E h => ?_) (fun cdv A outer s H vs Q E hr h => ⟨t_Ltells K, PSs.nox ?_, ?_⟩)
  · obtain ⟨_, _, _, rfl, _⟩ := h
    rfl
  · exact (pss_cons (ps_set (i := 3) sc_Ltells.nd rfl (Or.inl rfl) (pe_dget1 (hu_of hr.rm) (pe_disp (pps_cons pe_str pe_bl (pps_cons pe_str pe_bl (pps_cons pe_str pe_int (pps_cons pe_str pe_int (pps_cons pe_str pe_int pps_nil))))) rfl rfl (by simp) (by simp)) (pv 1) ⟨by rfl, by rfl, by rfl, by rfl⟩))
  (pss_cons (ps_for PassesOwn.never rfl (pi_list (pv 0)) (pg_name (i := 4) sc_Ltells.nd rfl (Or.inl rfl)) (pss_one (ps_if (PW.pt (pw_and (pt_cmpR op_eq (pe_ix ix_tup (pv 4) pe_int (fun _ _ => rfl)) (pv 1) (nomark _)) (pw_and1 (pt_chain op_le op_le (pe_ix ix_tup (pv 4) pe_int (fun _ _ => rfl)) (pv 2) (pe_ix ix_tup (pv 4) pe_int (fun _ _ => rfl)))))) (pss_one (ps_set (i := 3) sc_Ltells.nd rfl (Or.inl rfl) (pe_ix ix_tup (pv 4) pe_int (fun _ _ => rfl)))) pss_nil)))
  (pss_one (ps_ret (pv 3)))))
  · obtain ⟨_, _, _, rfl, _⟩ := id h
    exact pure_Ltells h
theorem ok_Lprice (T : Txt K mg) {f : Addr} {fd : FuncData} (F : FunD K "_law_price" "_law_price" (defArgs s_Lprice) (defBody s_Lprice) (defScope s_Lprice) [] [] f fd) (c_Ltells : Y.Cal P w K mg base CX0 1 "_law_tells" (sp_Ltells K) []) : FnG P w K mg base CX0 2 f fd ["_law_rules", "_law_begin_here", "_law_end"] (sp_Lprice K) := by
  refine g_def F sc_Lprice (fun vs H Q E h => ?_) (fun cdv A outer s H vs Q E hr h => ⟨t_Lprice K, PSs.nox ?_, ?_⟩)
  · obtain ⟨_, _, _, rfl, _⟩ := h
    rfl
  · exact (pss_cons (ps_set (i := 3) sc_Lprice.nd rfl (Or.inl rfl) (pe_op op_sub (pv 2) (pv 1)))
  (pss_cons (ps_if (PW.pt (pw_or (pt_cmpR op_isN (Y.pe_c c_Ltells hr (by decide) rfl pass0 (pa_cons (pv 0) (pa_cons pe_str (pa_cons (pv 1) pa_nil)))) pe_non (nomark _)) (pw_or1 (pt_not (pt_truth (Y.pe_c c_Ltells hr (by decide) rfl pass0 (pa_cons (pv 0) (pa_cons pe_str (pa_cons (pv 1) pa_nil)))) (by intro _; rfl)))))) (pss_one (ps_ret pe_non)) pss_nil)
  (pss_cons (ps_setLc (i := 4) (own := [("_law_night", 8)]) (g := (gName 8)) (tt := tYes) rfl sc_Lprice.nd rfl rfl (sw_true rfl rfl rfl (by decide +kernel)) (pi_range2 rfl T.b_range (pa_cons (pv 1) (pa_cons (pv 2) pa_nil))) (blkOk_by (own := [("_law_night", 8)]) (N := ["_law_rules", "_law_begin_here", "_law_end", "_law_nights", "_law_prices", "_law_total", "_law_worth_here", "_law_bundle", "_law_night"]) (sc := defScope s_Lprice) (by decide +kernel)) (fun _ _ _ _ _ => (pg_name (i := 8) sc_Lprice.nd rfl (Or.inl rfl))) (fun _ _ _ _ _ => pts_nil) (fun _ _ _ _ _ => (Y.pe_c c_Ltells hr (by decide) rfl pass0 (pa_cons (pv 0) (pa_cons pe_str (pa_cons (pv 8) pa_nil))))))
  (pss_cons (ps_if (PW.pt (pw_or (pt_cmpR op_in_seq pe_non (pv 4) (by rfl)) (pw_or (pt_not (pt_truth (Y.pe_c c_Ltells hr (by decide) rfl pass0 (pa_cons (pv 0) (pa_cons pe_str (pa_cons (pv 1) pa_nil)))) (by intro _; rfl))) (pw_or1 (pt_not (pt_truth (Y.pe_c c_Ltells hr (by decide) rfl pass0 (pa_cons (pv 0) (pa_cons pe_str (pa_cons (pv 2) pa_nil)))) (by intro _; rfl))))))) (pss_one (ps_ret pe_non)) pss_nil)
  (pss_cons (ps_if (pt_not (pt_chain op_le op_le (Y.pe_c c_Ltells hr (by decide) rfl pass0 (pa_cons (pv 0) (pa_cons pe_str (pa_cons (pv 1) pa_nil)))) (pv 3) (Y.pe_c c_Ltells hr (by decide) rfl pass0 (pa_cons (pv 0) (pa_cons pe_str (pa_cons (pv 1) pa_nil)))))) (pss_one (ps_ret pe_non)) pss_nil)
  (pss_cons (ps_set (i := 5) sc_Lprice.nd rfl (Or.inl rfl) (Y.pe_c c_Ltells hr (by decide) rfl pass0 (pa_cons (pv 0) (pa_cons pe_str (pa_cons (pv 1) pa_nil)))))
  (pss_cons (ps_set (i := 6) sc_Lprice.nd rfl (Or.inl rfl) (Y.pe_c c_Ltells hr (by decide) rfl pass0 (pa_cons (pv 0) (pa_cons pe_str (pa_cons (pv 1) pa_nil)))))
  (pss_cons (ps_while PassesOwn.never (PW.pt (pw_and (pt_cmpR op_notN (pv 6) pe_non (nomark _)) (pw_and1 (pt_cmpR op_ge (pe_callB call_len_seq (by rfl) T.b_len (by decide +kernel) (pa_cons (pv 4) pa_nil)) (pe_ix ix_tup (pv 6) pe_int (fun _ _ => rfl)) (nomark _))))) (pss_cons (ps_set (i := 7) sc_Lprice.nd rfl (Or.inl rfl) (pe_callB cr_sortedI (by rfl) T.b_sorted (by decide +kernel) (pa_cons (pe_slice sl_list (pv 4) po_none (po_some (pe_ix ix_tup (pv 6) pe_int (fun _ _ => rfl)))) pa_nil)))
  (pss_cons (ps_set (i := 4) sc_Lprice.nd rfl (Or.inl rfl) (pe_slice sl_list (pv 4) (po_some (pe_ix ix_tup (pv 6) pe_int (fun _ _ => rfl))) po_none))
  (pss_one (ps_set (i := 5) sc_Lprice.nd rfl (Or.inl rfl) (pe_op op_add (pv 5) (pe_callB (cr_sum rfl) (by rfl) T.b_sum (by decide +kernel) (pa_cons (pe_slice sl_list (pv 7) (po_some (pe_ix ix_tup (pv 6) pe_int (fun _ _ => rfl))) po_none) pa_nil))))))))
  (pss_one (ps_ret (pe_op op_add (pv 5) (pe_callB (cr_sum rfl) (by rfl) T.b_sum (by decide +kernel) (pa_cons (pv 4) pa_nil)))))))))))))
  · obtain ⟨_, _, _, rfl, _⟩ := id h
    exact pure_Lprice h
theorem ok_Ldue (T : Txt K mg) {f : Addr} {fd : FuncData} (F : FunD K "_law_due" "_law_due" (defArgs s_Ldue) (defBody s_Ldue) (defScope s_Ldue) [] [] f fd) (c_Lcomes : Y.Cal P w K mg base CX0 1 "_law_comes" (sp_Lcomes K) []) (c_Lprice : Y.Cal P w K mg base CX0 2 "_law_price" (sp_Lprice K) []) : FnG P w K mg base CX0 3 f fd ["_law_one", "_law_other"] (sp_Ldue K) := by
  refine g_def F sc_Ldue (fun vs H Q E h => ?_) (fun cdv A outer s H vs Q E hr h => ⟨t_Ldue K, PSs.nox ?_, ?_⟩)
  · obtain ⟨_, _, rfl, _⟩ := h
    rfl
  · exact (pss_cons (ps_for PassesOwn.never rfl (pi_range2 rfl T.b_range (pa_cons pe_int (pa_cons pe_int pa_nil))) (pg_name (i := 2) sc_Ldue.nd rfl (Or.inl rfl)) (pss_one (ps_for PassesOwn.never rfl (pi_list (Y.pe_c c_Lcomes hr (by decide) rfl pass0 (pa_cons (pe_lst (pa_cons (pv 0) (pa_cons (pv 1) pa_nil))) (pa_cons (pv 2) pa_nil)))) (pg_name (i := 3) sc_Ldue.nd rfl (Or.inl rfl)) (pss_cons (ps_set (i := 4) sc_Ldue.nd rfl (Or.inl rfl) (Y.pe_c c_Lprice hr (by decide) rfl pass0 (pa_cons (pv 0) (pa_cons (pv 3) (pa_cons (pe_op op_add (pv 3) (pv 2)) pa_nil)))))
  (pss_cons (ps_set (i := 5) sc_Ldue.nd rfl (Or.inl rfl) (Y.pe_c c_Lprice hr (by decide) rfl pass0 (pa_cons (pv 1) (pa_cons (pv 3) (pa_cons (pe_op op_add (pv 3) (pv 2)) pa_nil)))))
  (pss_one (ps_if (pt_cmpR (op_neD hr.units) (pv 4) (pv 5) (nomark _)) (pss_one (ps_ret (pe_tup (pa_cons (pe_tup (pa_cons (pv 3) (pa_cons (pe_op op_add (pv 3) (pv 2)) pa_nil))) (pa_cons (pv 4) (pa_cons (pv 5) pa_nil)))))) pss_nil)))))))
  (pss_one (ps_ret pe_non)))
  · obtain ⟨_, _, rfl, _⟩ := id h
    exact pure_Ldue h
theorem ok_is_whole (T : Txt K mg) {f : Addr} {fd : FuncData} (F : FunD K "is_whole" "is_whole" (defArgs s_is_whole) (defBody s_is_whole) (defScope s_is_whole) [] [] f fd)  : FnG P w K mg base CX0 1 f fd ["thing"] (sp_is_whole K) := by
  refine g_def F sc_is_whole (fun vs H Q E h => ?_) (fun cdv A outer s H vs Q E hr h => ⟨t_is_whole K, PSs.nox ?_, ?_⟩)
  · obtain ⟨_, rfl, _⟩ := h
    rfl
  · exact (pss_one (ps_ret (pe_and (pe_callB call_isi (by rfl) T.b_isinstance (by decide +kernel) (pa_cons (pv 0) (pa_cons (pe_bltn (v := .ty "int") (by rfl) T.b_int (by decide +kernel) rfl) pa_nil))) (pe_one (pe_not (pe_callB call_isi (by rfl) T.b_isinstance (by decide +kernel) (pa_cons (pv 0) (pa_cons (pe_bltn (v := .ty "bool") (by rfl) T.b_bool (by decide +kernel) rfl) pa_nil))))))))
  · obtain ⟨_, rfl, _⟩ := id h
    exact pure_is_whole h
theorem ok_is_day (T : Txt K mg) {f : Addr} {fd : FuncData} (F : FunD K "is_day" "is_day" (defArgs s_is_day) (defBody s_is_day) (defScope s_is_day) [] [] f fd) (c_is_whole : Y.Cal P w K mg base CX0 1 "is_whole" (sp_is_whole K) []) : FnG P w K mg base CX0 2 f fd ["thing"] (sp_is_day K) := by
  refine g_def F sc_is_day (fun vs H Q E h => ?_) (fun cdv A outer s H vs Q E hr h => ⟨t_is_day K, PSs.nox ?_, ?_⟩)
  · obtain ⟨_, rfl, _⟩ := h
    rfl
  · exact (pss_one (ps_ret (pe_and (Y.pe_c c_is_whole hr (by decide) rfl pass0 (pa_cons (pv 0) pa_nil)) (pe_one (pe_chain op_le op_le pe_int (pv 0) (pe_glob rfl T.c_LAST_DAY.choose_spec.1 T.c_LAST_DAY.choose_spec.2))))))
  · obtain ⟨_, rfl, _⟩ := id h
    exact pure_is_day h
theorem ok_is_two_days (T : Txt K mg) {f : Addr} {fd : FuncData} (F : FunD K "is_two_days" "is_two_days" (defArgs s_is_two_days) (defBody s_is_two_days) (defScope s_is_two_days) [] [] f fd) (c_is_day : Y.Cal P w K mg base CX0 2 "is_day" (sp_is_day K) []) : FnG P w K mg base CX0 3 f fd ["thing"] (sp_is_two_days K) := by
  refine g_def F sc_is_two_days (fun vs H Q E h => ?_) (fun cdv A outer s H vs Q E hr h => ⟨t_is_two_days K, PSs.nox ?_, ?_⟩)
  · obtain ⟨_, rfl, _⟩ := h
    rfl
  · exact (pss_one (ps_ret (pe_and (pe_callB call_isi (by rfl) T.b_isinstance (by decide +kernel) (pa_cons (pv 0) (pa_cons (pe_bltn (v := .ty "tuple") (by rfl) T.b_tuple (by decide +kernel) rfl) pa_nil))) (pe_and (pe_cmpR op_eq (pe_callB call_len_seq (by rfl) T.b_len (by decide +kernel) (pa_cons (pv 0) pa_nil)) pe_int (nomark _)) (pe_and (Y.pe_c c_is_day hr (by decide) rfl pass0 (pa_cons (pe_ix ix_tup (pv 0) pe_int (fun _ _ => rfl)) pa_nil)) (pe_one (Y.pe_c c_is_day hr (by decide) rfl pass0 (pa_cons (pe_ix ix_tup (pv 0) pe_int (fun _ _ => rfl)) pa_nil))))))))
  · obtain ⟨_, rfl, _⟩ := id h
    exact pure_is_two_days h
theorem ok_is_stretch (T : Txt K mg) {f : Addr} {fd : FuncData} (F : FunD K "is_stretch" "is_stretch" (defArgs s_is_stretch) (defBody s_is_stretch) (defScope s_is_stretch) [] [] f fd) (c_is_two_days : Y.Cal P w K mg base CX0 3 "is_two_days" (sp_is_two_days K) []) : FnG P w K mg base CX0 4 f fd ["thing"] (sp_is_stretch K) := by
  refine g_def F sc_is_stretch (fun vs H Q E h => ?_) (fun cdv A outer s H vs Q E hr h => ⟨t_is_stretch K, PSs.nox ?_, ?_⟩)
  · obtain ⟨_, rfl, _⟩ := h
    rfl
  · exact (pss_one (ps_ret (pe_and (Y.pe_c c_is_two_days hr (by decide) rfl pass0 (pa_cons (pv 0) pa_nil)) (pe_one (pe_cmpR op_le (pe_ix ix_tup (pv 0) pe_int (fun _ _ => rfl)) (pe_ix ix_tup (pv 0) pe_int (fun _ _ => rfl)) (nomark _))))))
  · obtain ⟨_, rfl, _⟩ := id h
    exact pure_is_stretch h
theorem ok_Rule_init (T : Txt K mg) {f : Addr} {fd : FuncData} (F : FunD K "__init__" "Rule.__init__" (defArgs s_Rule_init) (defBody s_Rule_init) (defScope s_Rule_init) [] [] f fd)  : FnG P w K mg base CX0 1 f fd ["self", "first", "last", "worth"] (sp_Rule_init K) := by
  refine g_def F sc_Rule_init (fun vs H Q E h => ?_) (fun cdv A outer s H vs Q E hr h => ⟨t_Rule_init K, PSs.nox ?_, ?_⟩)
  · obtain ⟨_, _, _, _, rfl, _⟩ := h
    rfl
  · exact (pss_cons (ps_fld (pv 0) (pv 1) rfl)
  (pss_cons (ps_fld (pv 0) (pv 2) rfl)
  (pss_one (ps_fld (pv 0) (pv 3) rfl))))
  · obtain ⟨_, _, _, _, rfl, _⟩ := id h
    exact pure_Rule_init h
theorem ok_made (T : Txt K mg) {f : Addr} {fd : FuncData} (F : FunD K "made" "made" (defArgs s_made) (defBody s_made) (defScope s_made) [] [] f fd) (c_Price : Y.Mak P w K mg base CX0 1 "Price" (He.ga K "Price") (sp_Rule_init K) []) (c_Come : Y.Mak P w K mg base CX0 1 "Come" (He.ga K "Come") (sp_Rule_init K) []) (c_Go : Y.Mak P w K mg base CX0 1 "Go" (He.ga K "Go") (sp_Rule_init K) []) (c_Least : Y.Mak P w K mg base CX0 1 "Least" (He.ga K "Least") (sp_Rule_init K) []) (c_Most : Y.Mak P w K mg base CX0 1 "Most" (He.ga K "Most") (sp_Rule_init K) []) (c_Deal : Y.Mak P w K mg base CX0 1 "Deal" (He.ga K "Deal") (sp_Rule_init K) []) (c_Fee : Y.Mak P w K mg base CX0 1 "Fee" (He.ga K "Fee") (sp_Rule_init K) []) : FnG P w K mg base CX0 3 f fd ["word", "first", "last", "worth"] (sp_made K) := by
  refine g_def F sc_made (fun vs H Q E h => ?_) (fun cdv A outer s H vs Q E hr h => ⟨t_made K, PSs.nox ?_, ?_⟩)
  · obtain ⟨_, _, _, _, rfl, _⟩ := h
    rfl
  · exact (pss_cons (ps_if (pt_cmpR op_eq (pv 0) pe_str (nomark _)) (pss_one (ps_ret (Y.pe_k c_Price hr (by decide) rfl pass0 (pa_cons (pv 1) (pa_cons (pv 2) (pa_cons (pv 3) pa_nil)))))) pss_nil)
  (pss_cons (ps_if (pt_cmpR op_eq (pv 0) pe_str (nomark _)) (pss_one (ps_ret (Y.pe_k c_Come hr (by decide) rfl pass0 (pa_cons (pv 1) (pa_cons (pv 2) (pa_cons (pv 3) pa_nil)))))) pss_nil)
  (pss_cons (ps_if (pt_cmpR op_eq (pv 0) pe_str (nomark _)) (pss_one (ps_ret (Y.pe_k c_Go hr (by decide) rfl pass0 (pa_cons (pv 1) (pa_cons (pv 2) (pa_cons (pv 3) pa_nil)))))) pss_nil)
  (pss_cons (ps_if (pt_cmpR op_eq (pv 0) pe_str (nomark _)) (pss_one (ps_ret (Y.pe_k c_Least hr (by decide) rfl pass0 (pa_cons (pv 1) (pa_cons (pv 2) (pa_cons (pv 3) pa_nil)))))) pss_nil)
  (pss_cons (ps_if (pt_cmpR op_eq (pv 0) pe_str (nomark _)) (pss_one (ps_ret (Y.pe_k c_Most hr (by decide) rfl pass0 (pa_cons (pv 1) (pa_cons (pv 2) (pa_cons (pv 3) pa_nil)))))) pss_nil)
  (pss_cons (ps_if (pt_cmpR op_eq (pv 0) pe_str (nomark _)) (pss_one (ps_ret (Y.pe_k c_Deal hr (by decide) rfl pass0 (pa_cons (pv 1) (pa_cons (pv 2) (pa_cons (pv 3) pa_nil)))))) pss_nil)
  (pss_one (ps_ret (Y.pe_k c_Fee hr (by decide) rfl pass0 (pa_cons (pv 1) (pa_cons (pv 2) (pa_cons (pv 3) pa_nil))))))))))))
  · obtain ⟨_, _, _, _, rfl, _⟩ := id h
    exact pure_made h
theorem ok_is_coins (T : Txt K mg) {f : Addr} {fd : FuncData} (F : FunD K "is_coins" "is_coins" (defArgs s_is_coins) (defBody s_is_coins) (defScope s_is_coins) [] [] f fd) (c_is_whole : Y.Cal P w K mg base CX0 1 "is_whole" (sp_is_whole K) []) : FnG P w K mg base CX0 2 f fd ["thing"] (sp_is_coins K) := by
  refine g_def F sc_is_coins (fun vs H Q E h => ?_) (fun cdv A outer s H vs Q E hr h => ⟨t_is_coins K, PSs.nox ?_, ?_⟩)
  · obtain ⟨_, rfl, _⟩ := h
    rfl
  · exact (pss_one (ps_ret (pe_and (Y.pe_c c_is_whole hr (by decide) rfl pass0 (pa_cons (pv 0) pa_nil)) (pe_one (pe_chain op_le op_le pe_int (pv 0) (pe_glob rfl T.c_MOST_COINS.choose_spec.1 T.c_MOST_COINS.choose_spec.2))))))
  · obtain ⟨_, rfl, _⟩ := id h
    exact pure_is_coins h
theorem ok_Price_fits (T : Txt K mg) {f : Addr} {fd : FuncData} (F : FunD K "fits" "Price.fits" (defArgs s_Price_fits) (defBody s_Price_fits) (defScope s_Price_fits) [] [] f fd) (c_is_coins : Y.Cal P w K mg base CX0 2 "is_coins" (sp_is_coins K) []) : FnG P w K mg base CX0 3 f fd ["self"] (sp_Price_fits K) := by
  refine g_def F sc_Price_fits (fun vs H Q E h => ?_) (fun cdv A outer s H vs Q E hr h => ⟨t_Price_fits K, PSs.nox ?_, ?_⟩)
  · obtain ⟨_, rfl, _⟩ := h
    rfl
  · exact (pss_one (ps_ret (pe_or (pe_cmpR op_isN (pe_fld (pv 0) rfl) pe_non (nomark _)) (pe_one (Y.pe_c c_is_coins hr (by decide) rfl pass0 (pa_cons (pe_fld (pv 0) rfl) pa_nil))))))
  · obtain ⟨_, rfl, _⟩ := id h
    exact pure_Price_fits h
theorem ok_Come_fits (T : Txt K mg) {f : Addr} {fd : FuncData} (F : FunD K "fits" "Come.fits" (defArgs s_Come_fits) (defBody s_Come_fits) (defScope s_Come_fits) [] [] f fd)  : FnG P w K mg base CX0 1 f fd ["self"] (sp_Come_fits K) := by
  refine g_def F sc_Come_fits (fun vs H Q E h => ?_) (fun cdv A outer s H vs Q E hr h => ⟨t_Come_fits K, PSs.nox ?_, ?_⟩)
  · obtain ⟨_, rfl, _⟩ := h
    rfl
  · exact (pss_one (ps_ret (pe_callB call_isi (by rfl) T.b_isinstance (by decide +kernel) (pa_cons (pe_fld (pv 0) rfl) (pa_cons (pe_bltn (v := .ty "bool") (by rfl) T.b_bool (by decide +kernel) rfl) pa_nil)))))
  · obtain ⟨_, rfl, _⟩ := id h
    exact pure_Come_fits h
theorem ok_Go_fits (T : Txt K mg) {f : Addr} {fd : FuncData} (F : FunD K "fits" "Go.fits" (defArgs s_Go_fits) (defBody s_Go_fits) (defScope s_Go_fits) [] [] f fd)  : FnG P w K mg base CX0 1 f fd ["self"] (sp_Go_fits K) := by
  refine g_def F sc_Go_fits (fun vs H Q E h => ?_) (fun cdv A outer s H vs Q E hr h => ⟨t_Go_fits K, PSs.nox ?_, ?_⟩)
  · obtain ⟨_, rfl, _⟩ := h
    rfl
  · exact (pss_one (ps_ret (pe_callB call_isi (by rfl) T.b_isinstance (by decide +kernel) (pa_cons (pe_fld (pv 0) rfl) (pa_cons (pe_bltn (v := .ty "bool") (by rfl) T.b_bool (by decide +kernel) rfl) pa_nil)))))
  · obtain ⟨_, rfl, _⟩ := id h
    exact pure_Go_fits h
theorem ok_is_nights (T : Txt K mg) {f : Addr} {fd : FuncData} (F : FunD K "is_nights" "is_nights" (defArgs s_is_nights) (defBody s_is_nights) (defScope s_is_nights) [] [] f fd) (c_is_whole : Y.Cal P w K mg base CX0 1 "is_whole" (sp_is_whole K) []) : FnG P w K mg base CX0 2 f fd ["thing"] (sp_is_nights K) := by
  refine g_def F sc_is_nights (fun vs H Q E h => ?_) (fun cdv A outer s H vs Q E hr h => ⟨t_is_nights K, PSs.nox ?_, ?_⟩)
  · obtain ⟨_, rfl, _⟩ := h
    rfl
  · exact (pss_one (ps_ret (pe_and (Y.pe_c c_is_whole hr (by decide) rfl pass0 (pa_cons (pv 0) pa_nil)) (pe_one (pe_chain op_le op_le pe_int (pv 0) (pe_glob rfl T.c_MOST_NIGHTS.choose_spec.1 T.c_MOST_NIGHTS.choose_spec.2))))))
  · obtain ⟨_, rfl, _⟩ := id h
    exact pure_is_nights h
theorem ok_Least_fits (T : Txt K mg) {f : Addr} {fd : FuncData} (F : FunD K "fits" "Least.fits" (defArgs s_Least_fits) (defBody s_Least_fits) (defScope s_Least_fits) [] [] f fd) (c_is_nights : Y.Cal P w K mg base CX0 2 "is_nights" (sp_is_nights K) []) : FnG P w K mg base CX0 3 f fd ["self"] (sp_Least_fits K) := by
  refine g_def F sc_Least_fits (fun vs H Q E h => ?_) (fun cdv A outer s H vs Q E hr h => ⟨t_Least_fits K, PSs.nox ?_, ?_⟩)
  · obtain ⟨_, rfl, _⟩ := h
    rfl
  · exact (pss_one (ps_ret (Y.pe_c c_is_nights hr (by decide) rfl pass0 (pa_cons (pe_fld (pv 0) rfl) pa_nil))))
  · obtain ⟨_, rfl, _⟩ := id h
    exact pure_Least_fits h
theorem ok_Most_fits (T : Txt K mg) {f : Addr} {fd : FuncData} (F : FunD K "fits" "Most.fits" (defArgs s_Most_fits) (defBody s_Most_fits) (defScope s_Most_fits) [] [] f fd) (c_is_nights : Y.Cal P w K mg base CX0 2 "is_nights" (sp_is_nights K) []) : FnG P w K mg base CX0 3 f fd ["self"] (sp_Most_fits K) := by
  refine g_def F sc_Most_fits (fun vs H Q E h => ?_) (fun cdv A outer s H vs Q E hr h => ⟨t_Most_fits K, PSs.nox ?_, ?_⟩)
  · obtain ⟨_, rfl, _⟩ := h
    rfl
  · exact (pss_one (ps_ret (Y.pe_c c_is_nights hr (by decide) rfl pass0 (pa_cons (pe_fld (pv 0) rfl) pa_nil))))
  · obtain ⟨_, rfl, _⟩ := id h
    exact pure_Most_fits h
theorem ok_Deal_fits (T : Txt K mg) {f : Addr} {fd : FuncData} (F : FunD K "fits" "Deal.fits" (defArgs s_Deal_fits) (defBody s_Deal_fits) (defScope s_Deal_fits) [] [] f fd) (c_is_nights : Y.Cal P w K mg base CX0 2 "is_nights" (sp_is_nights K) []) (c_is_whole : Y.Cal P w K mg base CX0 1 "is_whole" (sp_is_whole K) []) : FnG P w K mg base CX0 3 f fd ["self"] (sp_Deal_fits K) := by
  refine g_def F sc_Deal_fits (fun vs H Q E h => ?_) (fun cdv A outer s H vs Q E hr h => ⟨t_Deal_fits K, PSs.nox ?_, ?_⟩)
  · obtain ⟨_, rfl, _⟩ := h
    rfl
  · exact (pss_cons (ps_if (pt_cmpR op_isN (pe_fld (pv 0) rfl) pe_non (nomark _)) (pss_one (ps_ret pe_bl)) pss_nil)
  (pss_cons (ps_if (PW.pt (pw_or (pt_not (pt_val (pe_callB call_isi (by rfl) T.b_isinstance (by decide +kernel) (pa_cons (pe_fld (pv 0) rfl) (pa_cons (pe_bltn (v := .ty "tuple") (by rfl) T.b_tuple (by decide +kernel) rfl) pa_nil))))) (pw_or1 (pt_cmpR op_ne (pe_callB call_len (by rfl) T.b_len (by decide +kernel) (pa_cons (pe_fld (pv 0) rfl) pa_nil)) pe_int (nomark _))))) (pss_one (ps_ret pe_bl)) pss_nil)
  (pss_cons (ps_asg (pe_fld (pv 0) rfl) (pg_tup (by rfl) (pgs_cons (pg_name (i := 1) sc_Deal_fits.nd rfl (Or.inl rfl)) (pgs_cons (pg_name (i := 2) sc_Deal_fits.nd rfl (Or.inl rfl)) pgs_nil))))
  (pss_one (ps_ret (pe_and (Y.pe_c c_is_nights hr (by decide) rfl pass0 (pa_cons (pv 1) pa_nil)) (pe_and (Y.pe_c c_is_whole hr (by decide) rfl pass0 (pa_cons (pv 2) pa_nil)) (pe_one (pe_chain op_le op_lt pe_int (pv 2) (pv 1))))))))))
  · obtain ⟨_, rfl, _⟩ := id h
    exact pure_Deal_fits h
theorem ok_Fee_fits (T : Txt K mg) {f : Addr} {fd : FuncData} (F : FunD K "fits" "Fee.fits" (defArgs s_Fee_fits) (defBody s_Fee_fits) (defScope s_Fee_fits) [] [] f fd) (c_is_coins : Y.Cal P w K mg base CX0 2 "is_coins" (sp_is_coins K) []) : FnG P w K mg base CX0 3 f fd ["self"] (sp_Fee_fits K) := by
  refine g_def F sc_Fee_fits (fun vs H Q E h => ?_) (fun cdv A outer s H vs Q E hr h => ⟨t_Fee_fits K, PSs.nox ?_, ?_⟩)
  · obtain ⟨_, rfl, _⟩ := h
    rfl
  · exact (pss_one (ps_ret (Y.pe_c c_is_coins hr (by decide) rfl pass0 (pa_cons (pe_fld (pv 0) rfl) pa_nil))))
  · obtain ⟨_, rfl, _⟩ := id h
    exact pure_Fee_fits h
theorem ok_rule_of (T : Txt K mg) {f : Addr} {fd : FuncData} (F : FunD K "rule_of" "rule_of" (defArgs s_rule_of) (defBody s_rule_of) (defScope s_rule_of) [] [] f fd) (c_is_stretch : Y.Cal P w K mg base CX0 4 "is_stretch" (sp_is_stretch K) []) (c_made : Y.Cal P w K mg base CX0 3 "made" (sp_made K) []) (c_Price_fits : Y.Met P w K mg base CX0 3 (He.ga K "Price") "fits" (sp_Price_fits K) []) (c_Come_fits : Y.Met P w K mg base CX0 1 (He.ga K "Come") "fits" (sp_Come_fits K) []) (c_Go_fits : Y.Met P w K mg base CX0 1 (He.ga K "Go") "fits" (sp_Go_fits K) []) (c_Least_fits : Y.Met P w K mg base CX0 3 (He.ga K "Least") "fits" (sp_Least_fits K) []) (c_Most_fits : Y.Met P w K mg base CX0 3 (He.ga K "Most") "fits" (sp_Most_fits K) []) (c_Deal_fits : Y.Met P w K mg base CX0 3 (He.ga K "Deal") "fits" (sp_Deal_fits K) []) (c_Fee_fits : Y.Met P w K mg base CX0 3 (He.ga K "Fee") "fits" (sp_Fee_fits K) []) : FnG P w K mg base CX0 5 f fd ["thing"] (sp_rule_of K) := by
  refine g_def F sc_rule_of (fun vs H Q E h => ?_) (fun cdv A outer s H vs Q E hr h => ⟨t_rule_of K, PSs.nox ?_, ?_⟩)
  · obtain ⟨_, rfl, _⟩ := h
    rfl
  · exact (pss_cons (ps_if (PW.pt (pw_or (pt_not (pt_val (pe_callB call_isi (by rfl) T.b_isinstance (by decide +kernel) (pa_cons (pv 0) (pa_cons (pe_bltn (v := .ty "tuple") (by rfl) T.b_tuple (by decide +kernel) rfl) pa_nil))))) (pw_or (pt_cmpR op_ne (pe_callB call_len_seq (by rfl) T.b_len (by decide +kernel) (pa_cons (pv 0) pa_nil)) pe_int (nomark _)) (pw_or (pt_not (pt_val (pe_callB call_isi (by rfl) T.b_isinstance (by decide +kernel) (pa_cons (pe_ix ix_tup (pv 0) pe_int (fun _ _ => rfl)) (pa_cons (pe_bltn (v := .ty "str") (by rfl) T.b_str (by decide +kernel) rfl) pa_nil))))) (pw_or1 (pt_cmpR op_notIn_seq (pe_ix ix_tup (pv 0) pe_int (fun _ _ => rfl)) (pe_glob rfl T.c_WORDS.choose_spec.1 T.c_WORDS.choose_spec.2) (by rfl))))))) (pss_one (ps_ret pe_non)) pss_nil)
  (pss_cons (ps_if (pt_not (pt_val (Y.pe_c c_is_stretch hr (by decide) rfl pass0 (pa_cons (pe_tup (pa_cons (pe_ix ix_tup (pv 0) pe_int (fun _ _ => rfl)) (pa_cons (pe_ix ix_tup (pv 0) pe_int (fun _ _ => rfl)) pa_nil))) pa_nil)))) (pss_one (ps_ret pe_non)) pss_nil)
  (pss_cons (ps_set (i := 1) sc_rule_of.nd rfl (Or.inl rfl) (Y.pe_c c_made hr (by decide) rfl pass0 (pa_cons (pe_ix ix_tup (pv 0) pe_int (fun _ _ => rfl)) (pa_cons (pe_ix ix_tup (pv 0) pe_int (fun _ _ => rfl)) (pa_cons (pe_ix ix_tup (pv 0) pe_int (fun _ _ => rfl)) (pa_cons (pe_ix ix_tup (pv 0) pe_int (fun _ _ => rfl)) pa_nil))))))
  (pss_cons (ps_if (pt_not (pt_val (Y.pe_rule fun w => match w with | .price => Y.pe_m0 c_Price_fits hr (by decide) pass0 (pv 1) | .come => Y.pe_m0 c_Come_fits hr (by decide) pass0 (pv 1) | .go => Y.pe_m0 c_Go_fits hr (by decide) pass0 (pv 1) | .least => Y.pe_m0 c_Least_fits hr (by decide) pass0 (pv 1) | .most => Y.pe_m0 c_Most_fits hr (by decide) pass0 (pv 1) | .deal => Y.pe_m0 c_Deal_fits hr (by decide) pass0 (pv 1) | .fee => Y.pe_m0 c_Fee_fits hr (by decide) pass0 (pv 1)))) (pss_one (ps_ret pe_non)) pss_nil)
  (pss_one (ps_ret (pv 1)))))))
  · obtain ⟨_, rfl, _⟩ := id h
    exact pure_rule_of h
theorem ok_Price_word (T : Txt K mg) {f : Addr} {fd : FuncData} (F : FunD K "word" "Price.word" (defArgs s_Price_word) (defBody s_Price_word) (defScope s_Price_word) [] [] f fd)  : FnG P w K mg base CX0 1 f fd ["self"] (sp_Price_word K) := by
  refine g_def F sc_Price_word (fun vs H Q E h => ?_) (fun cdv A outer s H vs Q E hr h => ⟨t_Price_word K, PSs.nox ?_, ?_⟩)
  · obtain ⟨_, rfl, _⟩ := h
    rfl
  · exact (pss_one (ps_ret pe_str))
  · obtain ⟨_, rfl, _⟩ := id h
    exact pure_Price_word h
theorem ok_Come_word (T : Txt K mg) {f : Addr} {fd : FuncData} (F : FunD K "word" "Come.word" (defArgs s_Come_word) (defBody s_Come_word) (defScope s_Come_word) [] [] f fd)  : FnG P w K mg base CX0 1 f fd ["self"] (sp_Come_word K) := by
  refine g_def F sc_Come_word (fun vs H Q E h => ?_) (fun cdv A outer s H vs Q E hr h => ⟨t_Come_word K, PSs.nox ?_, ?_⟩)
  · obtain ⟨_, rfl, _⟩ := h
    rfl
  · exact (pss_one (ps_ret pe_str))
  · obtain ⟨_, rfl, _⟩ := id h
    exact pure_Come_word h
theorem ok_Go_word (T : Txt K mg) {f : Addr} {fd : FuncData} (F : FunD K "word" "Go.word" (defArgs s_Go_word) (defBody s_Go_word) (defScope s_Go_word) [] [] f fd)  : FnG P w K mg base CX0 1 f fd ["self"] (sp_Go_word K) := by
  refine g_def F sc_Go_word (fun vs H Q E h => ?_) (fun cdv A outer s H vs Q E hr h => ⟨t_Go_word K, PSs.nox ?_, ?_⟩)
  · obtain ⟨_, rfl, _⟩ := h
    rfl
  · exact (pss_one (ps_ret pe_str))
  · obtain ⟨_, rfl, _⟩ := id h
    exact pure_Go_word h
theorem ok_Least_word (T : Txt K mg) {f : Addr} {fd : FuncData} (F : FunD K "word" "Least.word" (defArgs s_Least_word) (defBody s_Least_word) (defScope s_Least_word) [] [] f fd)  : FnG P w K mg base CX0 1 f fd ["self"] (sp_Least_word K) := by
  refine g_def F sc_Least_word (fun vs H Q E h => ?_) (fun cdv A outer s H vs Q E hr h => ⟨t_Least_word K, PSs.nox ?_, ?_⟩)
  · obtain ⟨_, rfl, _⟩ := h
    rfl
  · exact (pss_one (ps_ret pe_str))
  · obtain ⟨_, rfl, _⟩ := id h
    exact pure_Least_word h
theorem ok_Most_word (T : Txt K mg) {f : Addr} {fd : FuncData} (F : FunD K "word" "Most.word" (defArgs s_Most_word) (defBody s_Most_word) (defScope s_Most_word) [] [] f fd)  : FnG P w K mg base CX0 1 f fd ["self"] (sp_Most_word K) := by
  refine g_def F sc_Most_word (fun vs H Q E h => ?_) (fun cdv A outer s H vs Q E hr h => ⟨t_Most_word K, PSs.nox ?_, ?_⟩)
  · obtain ⟨_, rfl, _⟩ := h
    rfl
  · exact (pss_one (ps_ret pe_str))
  · obtain ⟨_, rfl, _⟩ := id h
    exact pure_Most_word h
theorem ok_Deal_word (T : Txt K mg) {f : Addr} {fd : FuncData} (F : FunD K "word" "Deal.word" (defArgs s_Deal_word) (defBody s_Deal_word) (defScope s_Deal_word) [] [] f fd)  : FnG P w K mg base CX0 1 f fd ["self"] (sp_Deal_word K) := by
  refine g_def F sc_Deal_word (fun vs H Q E h => ?_) (fun cdv A outer s H vs Q E hr h => ⟨t_Deal_word K, PSs.nox ?_, ?_⟩)
  · obtain ⟨_, rfl, _⟩ := h
    rfl
  · exact (pss_one (ps_ret pe_str))
  · obtain ⟨_, rfl, _⟩ := id h
    exact pure_Deal_word h
theorem ok_Fee_word (T : Txt K mg) {f : Addr} {fd : FuncData} (F : FunD K "word" "Fee.word" (defArgs s_Fee_word) (defBody s_Fee_word) (defScope s_Fee_word) [] [] f fd)  : FnG P w K mg base CX0 1 f fd ["self"] (sp_Fee_word K) := by
  refine g_def F sc_Fee_word (fun vs H Q E h => ?_) (fun cdv A outer s H vs Q E hr h => ⟨t_Fee_word K, PSs.nox ?_, ?_⟩)
  · obtain ⟨_, rfl, _⟩ := h
    rfl
  · exact (pss_one (ps_ret pe_str))
  · obtain ⟨_, rfl, _⟩ := id h
    exact pure_Fee_word h
theorem ok_Book_init (T : Txt K mg) {f : Addr} {fd : FuncData} (F : FunD K "__init__" "Book.__init__" (defArgs s_Book_init) (defBody s_Book_init) (defScope s_Book_init) [.non] [] f fd) (c_rule_of : Y.Cal P w K mg base CX0 5 "rule_of" (sp_rule_of K) []) (c_Price_word : Y.Met P w K mg base CX0 1 (He.ga K "Price") "word" (sp_Price_word K) []) (c_Come_word : Y.Met P w K mg base CX0 1 (He.ga K "Come") "word" (sp_Come_word K) []) (c_Go_word : Y.Met P w K mg base CX0 1 (He.ga K "Go") "word" (sp_Go_word K) []) (c_Least_word : Y.Met P w K mg base CX0 1 (He.ga K "Least") "word" (sp_Least_word K) []) (c_Most_word : Y.Met P w K mg base CX0 1 (He.ga K "Most") "word" (sp_Most_word K) []) (c_Deal_word : Y.Met P w K mg base CX0 1 (He.ga K "Deal") "word" (sp_Deal_word K) []) (c_Fee_word : Y.Met P w K mg base CX0 1 (He.ga K "Fee") "word" (sp_Fee_word K) []) : FnG P w K mg base CX0 6 f fd ["self", "rules"] (sp_Book_init K) := by
  refine g_def F sc_Book_init (fun vs H Q E h => ?_) (fun cdv A outer s H vs Q E hr h => ⟨t_Book_init K, PSs.nox ?_, ?_⟩)
  · obtain ⟨_, _, rfl, _⟩ := h
    rfl
  · exact (pss_cons (ps_set (i := 2) sc_Book_init.nd rfl (Or.inl rfl) (pe_lst pa_nil))
  (pss_cons (ps_if (pt_cmpR op_notN (pv 1) pe_non (nomark _)) (pss_one (ps_set (i := 2) sc_Book_init.nd rfl (Or.inl rfl) (pe_callTy call_list_of (by rfl) T.b_list (by decide +kernel) (pa_cons (pv 1) pa_nil)))) pss_nil)
  (pss_cons (ps_fld (pv 0) (pe_lst pa_nil) rfl)
  (pss_cons (ps_fld (pv 0) pe_dnewK rfl)
  (pss_cons (ps_for PassesOwn.never rfl (pi_enum (by rfl) T.b_enumerate (pa_cons (pv 2) pa_nil)) (pg_tup (by rfl) (pgs_cons (pg_name (i := 3) sc_Book_init.nd rfl (Or.inl rfl)) (pgs_cons (pg_name (i := 4) sc_Book_init.nd rfl (Or.inl rfl)) pgs_nil))) (pss_cons (ps_set (i := 5) sc_Book_init.nd rfl (Or.inl rfl) (Y.pe_c c_rule_of hr (by decide) rfl pass0 (pa_cons (pv 4) pa_nil)))
  (pss_cons (ps_if (pt_cmpR op_isN (pv 5) pe_non (nomark _)) (pss_one Y.ps_never) pss_nil)
  (pss_cons (ps_expr (pe_bm PySem.F.plainAttrs_list PySem.F.slot_list_append PySem.F.type_list_append mt_append (pe_fld (pv 0) rfl) (pa_cons (pv 5) pa_nil)))
  (pss_one (ps_expr (pe_bm PySem.F.plainAttrs_list PySem.F.slot_list_insert PySem.F.type_list_insert mt_insert (pe_dsetd (pe_fld (pv 0) rfl) (Y.pe_rule fun w => match w with | .price => Y.pe_m0 c_Price_word hr (by decide) pass0 (pv 5) | .come => Y.pe_m0 c_Come_word hr (by decide) pass0 (pv 5) | .go => Y.pe_m0 c_Go_word hr (by decide) pass0 (pv 5) | .least => Y.pe_m0 c_Least_word hr (by decide) pass0 (pv 5) | .most => Y.pe_m0 c_Most_word hr (by decide) pass0 (pv 5) | .deal => Y.pe_m0 c_Deal_word hr (by decide) pass0 (pv 5) | .fee => Y.pe_m0 c_Fee_word hr (by decide) pass0 (pv 5)) (pe_lst pa_nil) ⟨by rfl, by rfl, by rfl, by rfl⟩) (pa_cons pe_int (pa_cons (pv 5) pa_nil)))))))))
  (pss_one (ps_if (pt_cmpR op_gt (pe_callB call_len_seq (by rfl) T.b_len (by decide +kernel) (pa_cons (pv 2) pa_nil)) (pe_glob rfl T.c_MOST_RULES_books.choose_spec.1 T.c_MOST_RULES_books.choose_spec.2) (nomark _)) (pss_one Y.ps_never) pss_nil)))))))
  · obtain ⟨_, _, rfl, _⟩ := id h
    exact pure_Book_init h
theorem ok_Rule_told (T : Txt K mg) {f : Addr} {fd : FuncData} (F : FunD K "told" "Rule.told" (defArgs s_Rule_told) (defBody s_Rule_told) (defScope s_Rule_told) [] [] f fd) (c_Price_word : Y.Met P w K mg base CX0 1 (He.ga K "Price") "word" (sp_Price_word K) []) (c_Come_word : Y.Met P w K mg base CX0 1 (He.ga K "Come") "word" (sp_Come_word K) []) (c_Go_word : Y.Met P w K mg base CX0 1 (He.ga K "Go") "word" (sp_Go_word K) []) (c_Least_word : Y.Met P w K mg base CX0 1 (He.ga K "Least") "word" (sp_Least_word K) []) (c_Most_word : Y.Met P w K mg base CX0 1 (He.ga K "Most") "word" (sp_Most_word K) []) (c_Deal_word : Y.Met P w K mg base CX0 1 (He.ga K "Deal") "word" (sp_Deal_word K) []) (c_Fee_word : Y.Met P w K mg base CX0 1 (He.ga K "Fee") "word" (sp_Fee_word K) []) : FnG P w K mg base CX0 2 f fd ["self"] (sp_Rule_told K) := by
  refine g_def F sc_Rule_told (fun vs H Q E h => ?_) (fun cdv A outer s H vs Q E hr h => ⟨t_Rule_told K, PSs.nox ?_, ?_⟩)
  · obtain ⟨_, rfl, _⟩ := h
    rfl
  · exact (pss_one (ps_ret (pe_tup (pa_cons (Y.pe_rule fun w => match w with | .price => Y.pe_m0 c_Price_word hr (by decide) pass0 (pv 0) | .come => Y.pe_m0 c_Come_word hr (by decide) pass0 (pv 0) | .go => Y.pe_m0 c_Go_word hr (by decide) pass0 (pv 0) | .least => Y.pe_m0 c_Least_word hr (by decide) pass0 (pv 0) | .most => Y.pe_m0 c_Most_word hr (by decide) pass0 (pv 0) | .deal => Y.pe_m0 c_Deal_word hr (by decide) pass0 (pv 0) | .fee => Y.pe_m0 c_Fee_word hr (by decide) pass0 (pv 0)) (pa_cons (pe_fld (pv 0) rfl) (pa_cons (pe_fld (pv 0) rfl) (pa_cons (pe_fld (pv 0) rfl) pa_nil)))))))
  · obtain ⟨_, rfl, _⟩ := id h
    exact pure_Rule_told h
theorem ok_Book_rules (T : Txt K mg) {f : Addr} {fd : FuncData} (F : FunD K "rules" "Book.rules" (defArgs s_Book_rules) (defBody s_Book_rules) (defScope s_Book_rules) [] [] f fd) (c_Price_told : Y.Met P w K mg base CX0 2 (He.ga K "Price") "told" (sp_Rule_told K) []) (c_Come_told : Y.Met P w K mg base CX0 2 (He.ga K "Come") "told" (sp_Rule_told K) []) (c_Go_told : Y.Met P w K mg base CX0 2 (He.ga K "Go") "told" (sp_Rule_told K) []) (c_Least_told : Y.Met P w K mg base CX0 2 (He.ga K "Least") "told" (sp_Rule_told K) []) (c_Most_told : Y.Met P w K mg base CX0 2 (He.ga K "Most") "told" (sp_Rule_told K) []) (c_Deal_told : Y.Met P w K mg base CX0 2 (He.ga K "Deal") "told" (sp_Rule_told K) []) (c_Fee_told : Y.Met P w K mg base CX0 2 (He.ga K "Fee") "told" (sp_Rule_told K) []) : FnG P w K mg base CX0 3 f fd ["self"] (sp_Book_rules K) := by
  refine g_def F sc_Book_rules (fun vs H Q E h => ?_) (fun cdv A outer s H vs Q E hr h => ⟨t_Book_rules K, PSs.nox ?_, ?_⟩)
  · obtain ⟨_, rfl, _⟩ := h
    rfl
  · exact (pss_one (ps_ret (pe_lc (own := [("rule", 1)]) (g := (gName 1)) (tt := tYes) rfl sc_Book_rules.nd (pi_list (pe_fld (pv 0) rfl)) (blkOk_by (own := [("rule", 1)]) (N := ["self", "rule"]) (sc := defScope s_Book_rules) (by decide +kernel)) (fun _ _ _ _ _ => (pg_name (i := 1) sc_Book_rules.nd rfl (Or.inl rfl))) (fun _ _ _ _ _ => pts_nil) (fun _ _ _ _ _ => (Y.pe_rule fun w => match w with | .price => Y.pe_m0 c_Price_told hr (by decide) pass0 (pv 1) | .come => Y.pe_m0 c_Come_told hr (by decide) pass0 (pv 1) | .go => Y.pe_m0 c_Go_told hr (by decide) pass0 (pv 1) | .least => Y.pe_m0 c_Least_told hr (by decide) pass0 (pv 1) | .most => Y.pe_m0 c_Most_told hr (by decide) pass0 (pv 1) | .deal => Y.pe_m0 c_Deal_told hr (by decide) pass0 (pv 1) | .fee => Y.pe_m0 c_Fee_told hr (by decide) pass0 (pv 1))))))
  · obtain ⟨_, rfl, _⟩ := id h
    exact pure_Book_rules h
theorem ok_backs_of (T : Txt K mg) {f : Addr} {fd : FuncData} (F : FunD K "backs_of" "backs_of" (defArgs s_backs_of) (defBody s_backs_of) (defScope s_backs_of) [] [] f fd)  : FnG P w K mg base CX0 1 f fd ["word", "nights"] (sp_backs_of K) := by
  refine g_def F sc_backs_of (fun vs H Q E h => ?_) (fun cdv A outer s H vs Q E hr h => ⟨t_backs_of K, PSs.nox ?_, ?_⟩)
  · obtain ⟨_, _, rfl, _⟩ := h
    rfl
  · exact (pss_cons (ps_if (pt_cmpR op_eq (pv 0) pe_str (nomark _)) (pss_one (ps_ret (pe_listRg rfl rfl T.b_list (prg_1 rfl T.b_range (pv 1))))) pss_nil)
  (pss_cons (ps_if (pt_cmpR op_eq (pv 0) pe_str (nomark _)) (pss_one (ps_ret (pe_lst (pa_cons (pv 1) pa_nil)))) pss_nil)
  (pss_one (ps_ret (pe_lst (pa_cons pe_int pa_nil))))))
  · obtain ⟨_, _, rfl, _⟩ := id h
    exact pure_backs_of h
theorem ok_comes_of (T : Txt K mg) {f : Addr} {fd : FuncData} (F : FunD K "comes_of" "comes_of" (defArgs s_comes_of) (defBody s_comes_of) (defScope s_comes_of) [] [] f fd) (c_Book_rules : Y.Met P w K mg base CX0 3 (He.ga K "Book") "rules" (sp_Book_rules K) []) (c_backs_of : Y.Cal P w K mg base CX0 1 "backs_of" (sp_backs_of K) []) : FnG P w K mg base CX0 4 f fd ["books", "nights"] (sp_comes_of K) := by
  refine g_def F sc_comes_of (fun vs H Q E h => ?_) (fun cdv A outer s H vs Q E hr h => ⟨t_comes_of K, PSs.nox ?_, ?_⟩)
  · obtain ⟨_, _, rfl, _⟩ := h
    rfl
  · exact (pss_cons (ps_set (i := 2) sc_comes_of.nd rfl (Or.inl rfl) (pe_lst (pa_cons pe_int pa_nil)))
  (pss_cons (ps_for PassesOwn.never rfl (pi_list (pv 0)) (pg_name (i := 3) sc_comes_of.nd rfl (Or.inl rfl)) (pss_one (ps_for PassesOwn.never rfl (pi_list (Y.pe_m0 c_Book_rules hr (by decide) pass0 (pv 3))) (pg_tup (by rfl) (pgs_cons (pg_name (i := 4) sc_comes_of.nd rfl (Or.inl rfl)) (pgs_cons (pg_name (i := 5) sc_comes_of.nd rfl (Or.inl rfl)) (pgs_cons (pg_name (i := 6) sc_comes_of.nd rfl (Or.inl rfl)) (pgs_cons (pg_name (i := 7) sc_comes_of.nd rfl (Or.inl rfl)) pgs_nil))))) (pss_one (ps_for PassesOwn.never rfl (pi_tup (pe_tup (pa_cons (pv 5) (pa_cons (pe_op op_add (pv 6) pe_int) pa_nil)))) (pg_name (i := 8) sc_comes_of.nd rfl (Or.inr rfl)) (pss_one (ps_expr (pe_bm PySem.F.plainAttrs_list PySem.F.slot_list_extend PySem.F.type_list_extend mt_extend (pv 2) (pa_cons (pe_lc (own := [("back", 10)]) (g := (gName 10)) (tt := tYes) rfl sc_comes_of.nd (pi_list (Y.pe_c c_backs_of hr (by decide) rfl pass0 (pa_cons (pv 4) (pa_cons (pv 1) pa_nil)))) (blkOk_by (own := [("back", 10)]) (N := ["books", "nights", "found", "book", "word", "first", "last", "worth", "bound", "come", "back"]) (sc := defScope s_comes_of) (by decide +kernel)) (fun _ _ _ _ _ => (pg_name (i := 10) sc_comes_of.nd rfl (Or.inl rfl))) (fun _ _ _ _ _ => pts_nil) (fun _ _ _ _ _ => (pe_op op_sub (pv 8) (pv 10)))) pa_nil)))))))))
  (pss_one (ps_ret (pe_lc (own := [("come", 9)]) (g := (gName 9)) (tt := (tTest (tChain rLe rLe (tC (.int 0)) (tVar 9) (tOp rSub (tC (.int 1000000)) (tVar 1))))) rfl sc_comes_of.nd (pi_list (Y.pe_sortSet (by rfl) T.b_sorted (by rfl) T.b_set (pv 2))) (blkOk_by (own := [("come", 9)]) (N := ["books", "nights", "found", "book", "word", "first", "last", "worth", "bound", "come", "back"]) (sc := defScope s_comes_of) (by decide +kernel)) (fun _ _ _ _ _ => (pg_name (i := 9) sc_comes_of.nd rfl (Or.inl rfl))) (fun _ _ _ _ _ => (pts_one (pt_chain op_le op_le pe_int (pv 9) (pe_op op_sub (pe_glob rfl T.c_LAST_DAY.choose_spec.1 T.c_LAST_DAY.choose_spec.2) (pv 1))))) (fun _ _ _ _ _ => (pv 9)))))))
  · obtain ⟨_, _, rfl, _⟩ := id h
    exact pure_comes_of h
theorem ok_Rule_tells (T : Txt K mg) {f : Addr} {fd : FuncData} (F : FunD K "tells" "Rule.tells" (defArgs s_Rule_tells) (defBody s_Rule_tells) (defScope s_Rule_tells) [] [] f fd)  : FnG P w K mg base CX0 1 f fd ["self", "day"] (sp_Rule_tells K) := by
  refine g_def F sc_Rule_tells (fun vs H Q E h => ?_) (fun cdv A outer s H vs Q E hr h => ⟨t_Rule_tells K, PSs.nox ?_, ?_⟩)
  · obtain ⟨_, _, rfl, _⟩ := h
    rfl
  · exact (pss_one (ps_ret (pe_chain op_le op_le (pe_fld (pv 0) rfl) (pv 1) (pe_fld (pv 0) rfl))))
  · obtain ⟨_, _, rfl, _⟩ := id h
    exact pure_Rule_tells h
theorem ok_usual (T : Txt K mg) {f : Addr} {fd : FuncData} (F : FunD K "usual" "usual" (defArgs s_usual) (defBody s_usual) (defScope s_usual) [] [] f fd)  : FnG P w K mg base CX0 1 f fd ["word"] (sp_usual K) := by
  refine g_def F sc_usual (fun vs H Q E h => ?_) (fun cdv A outer s H vs Q E hr h => ⟨t_usual K, PSs.nox ?_, ?_⟩)
  · obtain ⟨_, rfl, _⟩ := h
    rfl
  · exact (pss_cons (ps_if (PW.pt (pw_or (pt_cmpR op_eq (pv 0) pe_str (nomark _)) (pw_or1 (pt_cmpR op_eq (pv 0) pe_str (nomark _))))) (pss_one (ps_ret pe_bl)) pss_nil)
  (pss_cons (ps_if (pt_cmpR op_eq (pv 0) pe_str (nomark _)) (pss_one (ps_ret pe_int)) pss_nil)
  (pss_cons (ps_if (pt_cmpR op_eq (pv 0) pe_str (nomark _)) (pss_one (ps_ret (pe_glob rfl T.c_MOST_NIGHTS.choose_spec.1 T.c_MOST_NIGHTS.choose_spec.2))) pss_nil)
  (pss_cons (ps_if (pt_cmpR op_eq (pv 0) pe_str (nomark _)) (pss_one (ps_ret pe_int)) pss_nil)
  (pss_one (ps_ret pe_non))))))
  · obtain ⟨_, rfl, _⟩ := id h
    exact pure_usual h
theorem ok_Book_tells_of (T : Txt K mg) {f : Addr} {fd : FuncData} (F : FunD K "tells_of" "Book.tells_of" (defArgs s_Book_tells_of) (defBody s_Book_tells_of) (defScope s_Book_tells_of) [] [] f fd) (c_Price_tells : Y.Met P w K mg base CX0 1 (He.ga K "Price") "tells" (sp_Rule_tells K) []) (c_Come_tells : Y.Met P w K mg base CX0 1 (He.ga K "Come") "tells" (sp_Rule_tells K) []) (c_Go_tells : Y.Met P w K mg base CX0 1 (He.ga K "Go") "tells" (sp_Rule_tells K) []) (c_Least_tells : Y.Met P w K mg base CX0 1 (He.ga K "Least") "tells" (sp_Rule_tells K) []) (c_Most_tells : Y.Met P w K mg base CX0 1 (He.ga K "Most") "tells" (sp_Rule_tells K) []) (c_Deal_tells : Y.Met P w K mg base CX0 1 (He.ga K "Deal") "tells" (sp_Rule_tells K) []) (c_Fee_tells : Y.Met P w K mg base CX0 1 (He.ga K "Fee") "tells" (sp_Rule_tells K) []) (c_usual : Y.Cal P w K mg base CX0 1 "usual" (sp_usual K) []) : FnG P w K mg base CX0 2 f fd ["self", "word", "day"] (sp_Book_tells_of K) := by
  refine g_def F sc_Book_tells_of (fun vs H Q E h => ?_) (fun cdv A outer s H vs Q E hr h => ⟨t_Book_tells_of K, PSs.nox ?_, ?_⟩)
  · obtain ⟨_, _, _, rfl, _⟩ := h
    rfl
  · exact (pss_cons (ps_for PassesOwn.never rfl (pi_list (pe_dget2 (hu_of hr.rm) (pe_fld (pv 0) rfl) (pv 1) (pe_lst pa_nil) ⟨by rfl, by rfl, by rfl, by rfl⟩)) (pg_name (i := 3) sc_Book_tells_of.nd rfl (Or.inl rfl)) (pss_one (ps_if (pt_val (Y.pe_rule fun w => match w with | .price => Y.pe_m c_Price_tells hr (by decide) pass0 (pv 3) (pa_cons (pv 2) pa_nil) | .come => Y.pe_m c_Come_tells hr (by decide) pass0 (pv 3) (pa_cons (pv 2) pa_nil) | .go => Y.pe_m c_Go_tells hr (by decide) pass0 (pv 3) (pa_cons (pv 2) pa_nil) | .least => Y.pe_m c_Least_tells hr (by decide) pass0 (pv 3) (pa_cons (pv 2) pa_nil) | .most => Y.pe_m c_Most_tells hr (by decide) pass0 (pv 3) (pa_cons (pv 2) pa_nil) | .deal => Y.pe_m c_Deal_tells hr (by decide) pass0 (pv 3) (pa_cons (pv 2) pa_nil) | .fee => Y.pe_m c_Fee_tells hr (by decide) pass0 (pv 3) (pa_cons (pv 2) pa_nil))) (pss_one (ps_ret (pe_fld (pv 3) rfl))) pss_nil)))
  (pss_one (ps_ret (Y.pe_c c_usual hr (by decide) rfl pass0 (pa_cons (pv 1) pa_nil)))))
  · obtain ⟨_, _, _, rfl, _⟩ := id h
    exact pure_Book_tells_of h
theorem ok_nights_of (T : Txt K mg) {f : Addr} {fd : FuncData} (F : FunD K "nights_of" "nights_of" (defArgs s_nights_of) (defBody s_nights_of) (defScope s_nights_of) [] [] f fd)  : FnG P w K mg base CX0 1 f fd ["stay"] (sp_nights_of K) := by
  refine g_def F sc_nights_of (fun vs H Q E h => ?_) (fun cdv A outer s H vs Q E hr h => ⟨t_nights_of K, PSs.nox ?_, ?_⟩)
  · obtain ⟨_, rfl, _⟩ := h
    rfl
  · exact (pss_one (ps_ret (pe_listRg rfl rfl T.b_list (prg_2 rfl T.b_range (pe_ix ix_tup (pv 0) pe_int (fun _ _ => rfl)) (pe_ix ix_tup (pv 0) pe_int (fun _ _ => rfl))))))
  · obtain ⟨_, rfl, _⟩ := id h
    exact pure_nights_of h
theorem ok_can_be_had (T : Txt K mg) {f : Addr} {fd : FuncData} (F : FunD K "can_be_had" "can_be_had" (defArgs s_can_be_had) (defBody s_can_be_had) (defScope s_can_be_had) [] [] f fd) (c_Book_tells_of : Y.Met P w K mg base CX0 2 (He.ga K "Book") "tells_of" (sp_Book_tells_of K) []) (c_nights_of : Y.Cal P w K mg base CX0 1 "nights_of" (sp_nights_of K) []) : FnG P w K mg base CX0 3 f fd ["book", "stay"] (sp_can_be_had K) := by
  refine g_def F sc_can_be_had (fun vs H Q E h => ?_) (fun cdv A outer s H vs Q E hr h => ⟨t_can_be_had K, PSs.nox ?_, ?_⟩)
  · obtain ⟨_, _, rfl, _⟩ := h
    rfl
  · exact (pss_cons (ps_asg (pv 1) (pg_tup (by rfl) (pgs_cons (pg_name (i := 2) sc_can_be_had.nd rfl (Or.inl rfl)) (pgs_cons (pg_name (i := 3) sc_can_be_had.nd rfl (Or.inl rfl)) pgs_nil))))
  (pss_cons (ps_if (pt_not (pt_chain op_le op_le (Y.pe_m c_Book_tells_of hr (by decide) pass0 (pv 0) (pa_cons pe_str (pa_cons (pv 2) pa_nil))) (pe_op op_sub (pv 3) (pv 2)) (Y.pe_m c_Book_tells_of hr (by decide) pass0 (pv 0) (pa_cons pe_str (pa_cons (pv 2) pa_nil))))) (pss_one (ps_ret pe_bl)) pss_nil)
  (pss_cons (ps_if (PW.pt (pw_or (pt_not (pt_truth (Y.pe_m c_Book_tells_of hr (by decide) pass0 (pv 0) (pa_cons pe_str (pa_cons (pv 2) pa_nil))) (by intro _; rfl))) (pw_or1 (pt_not (pt_truth (Y.pe_m c_Book_tells_of hr (by decide) pass0 (pv 0) (pa_cons pe_str (pa_cons (pv 3) pa_nil))) (by intro _; rfl)))))) (pss_one (ps_ret pe_bl)) pss_nil)
  (pss_cons (ps_for PassesOwn.never rfl (pi_list (Y.pe_c c_nights_of hr (by decide) rfl pass0 (pa_cons (pv 1) pa_nil))) (pg_name (i := 4) sc_can_be_had.nd rfl (Or.inl rfl)) (pss_one (ps_if (pt_cmpR op_isN (Y.pe_m c_Book_tells_of hr (by decide) pass0 (pv 0) (pa_cons pe_str (pa_cons (pv 4) pa_nil))) pe_non (nomark _)) (pss_one (ps_ret pe_bl)) pss_nil)))
  (pss_one (ps_ret pe_bl))))))
  · obtain ⟨_, _, rfl, _⟩ := id h
    exact pure_can_be_had h
theorem ok_marked (T : Txt K mg) {f : Addr} {fd : FuncData} (F : FunD K "marked" "marked" (defArgs s_marked) (defBody s_marked) (defScope s_marked) [] [] f fd)  : FnG P w K mg base CX0 1 f fd ["prices", "deal"] (sp_marked K) := by
  refine g_def F sc_marked (fun vs H Q E h => ?_) (fun cdv A outer s H vs Q E hr h => ⟨t_marked K, PSs.nox ?_, ?_⟩)
  · obtain ⟨_, _, rfl, _⟩ := h
    rfl
  · exact (pss_cons (ps_setLc (i := 3) (own := [("price", 2)]) (g := (gName 2)) (tt := tYes) rfl sc_marked.nd rfl rfl (sw_true rfl rfl rfl (by decide +kernel)) (pi_list (pv 0)) (blkOk_by (own := [("price", 2)]) (N := ["prices", "deal", "price", "found", "many", "free", "begin", "bundle", "back", "at"]) (sc := defScope s_marked) (by decide +kernel)) (fun _ _ _ _ _ => (pg_name (i := 2) sc_marked.nd rfl (Or.inl rfl))) (fun _ _ _ _ _ => pts_nil) (fun _ _ _ _ _ => pe_bl))
  (pss_cons (ps_if (pt_cmpR op_isN (pv 1) pe_non (nomark _)) (pss_one (ps_ret (pv 3))) pss_nil)
  (pss_cons (ps_asg (pv 1) (pg_tup (by rfl) (pgs_cons (pg_name (i := 4) sc_marked.nd rfl (Or.inl rfl)) (pgs_cons (pg_name (i := 5) sc_marked.nd rfl (Or.inl rfl)) pgs_nil))))
  (pss_cons (ps_for PassesOwn.never rfl (pi_range3 rfl T.b_range (pa_cons pe_int (pa_cons (pe_op op_add (pe_op op_sub (pe_callB call_len_seq (by rfl) T.b_len (by decide +kernel) (pa_cons (pv 0) pa_nil)) (pv 4)) pe_int) (pa_cons (pv 4) pa_nil)))) (pg_name (i := 6) sc_marked.nd rfl (Or.inl rfl)) (pss_cons (ps_set (i := 7) sc_marked.nd rfl (Or.inl rfl) (pe_callB cr_sortedPO (by rfl) T.b_sorted (by decide +kernel) (pa_cons (pe_lc (own := [("at", 9)]) (g := (gName 9)) (tt := tYes) rfl sc_marked.nd (pi_range2 rfl T.b_range (pa_cons (pv 6) (pa_cons (pe_op op_add (pv 6) (pv 4)) pa_nil))) (blkOk_by (own := [("at", 9)]) (N := ["prices", "deal", "price", "found", "many", "free", "begin", "bundle", "back", "at"]) (sc := defScope s_marked) (by decide +kernel)) (fun _ _ _ _ _ => (pg_name (i := 9) sc_marked.nd rfl (Or.inl rfl))) (fun _ _ _ _ _ => pts_nil) (fun _ _ _ _ _ => (pe_tup (pa_cons (pe_ix ix_list (pv 0) (pv 9) (fun _ _ => rfl)) (pa_cons (pe_op op_sub (pe_callB call_len_seq (by rfl) T.b_len (by decide +kernel) (pa_cons (pv 0) pa_nil)) (pv 9)) pa_nil))))) pa_nil)))
  (pss_one (ps_for PassesOwn.never rfl (pi_list (pe_slice sl_list (pv 7) po_none (po_some (pv 5)))) (pg_tup (by rfl) (pgs_cons (pg_name (i := 2) sc_marked.nd rfl (Or.inl rfl)) (pgs_cons (pg_name (i := 8) sc_marked.nd rfl (Or.inl rfl)) pgs_nil))) (pss_one (ps_asg pe_bl (pg_sub (pv 3) (pe_op op_sub (pe_callB call_len_seq (by rfl) T.b_len (by decide +kernel) (pa_cons (pv 0) pa_nil)) (pv 8)) set_list)))))))
  (pss_one (ps_ret (pv 3)))))))
  · obtain ⟨_, _, rfl, _⟩ := id h
    exact pure_marked h
theorem ok_bill (T : Txt K mg) {f : Addr} {fd : FuncData} (F : FunD K "bill" "bill" (defArgs s_bill) (defBody s_bill) (defScope s_bill) [] [] f fd) (c_nights_of : Y.Cal P w K mg base CX0 1 "nights_of" (sp_nights_of K) []) (c_Book_tells_of : Y.Met P w K mg base CX0 2 (He.ga K "Book") "tells_of" (sp_Book_tells_of K) []) (c_marked : Y.Cal P w K mg base CX0 1 "marked" (sp_marked K) []) : FnG P w K mg base CX0 3 f fd ["book", "stay"] (sp_bill K) := by
  refine g_def F sc_bill (fun vs H Q E h => ?_) (fun cdv A outer s H vs Q E hr h => ⟨t_bill K, PSs.nox ?_, ?_⟩)
  · obtain ⟨_, _, rfl, _⟩ := h
    rfl
  · exact (pss_cons (ps_set (i := 2) sc_bill.nd rfl (Or.inr rfl) (Y.pe_c c_nights_of hr (by decide) rfl pass0 (pa_cons (pv 1) pa_nil)))
  (pss_cons (ps_set (i := 3) sc_bill.nd rfl (Or.inr rfl) (pe_lc (own := [("night", 7)]) (g := (gName 7)) (tt := tYes) rfl sc_bill.nd (pi_list (pv 2)) (blkOk_by (own := [("night", 7)]) (N := ["book", "stay", "nights", "prices", "marks", "fee", "rows", "night", "k", "coins", "free"]) (sc := defScope s_bill) (by decide +kernel)) (fun _ _ _ _ _ => (pg_name (i := 7) sc_bill.nd rfl (Or.inl rfl))) (fun _ _ _ _ _ => pts_nil) (fun _ _ _ _ _ => (Y.pe_m c_Book_tells_of hr (by decide) pass0 (pv 0) (pa_cons pe_str (pa_cons (pv 7) pa_nil))))))
  (pss_cons (ps_if (pt_cmpR op_in_seq pe_non (pv 3) (by rfl)) (pss_one Y.ps_never) pss_nil)
  (pss_cons (ps_set (i := 4) sc_bill.nd rfl (Or.inr rfl) (Y.pe_c c_marked hr (by decide) rfl pass0 (pa_cons (pv 3) (pa_cons (Y.pe_m c_Book_tells_of hr (by decide) pass0 (pv 0) (pa_cons pe_str (pa_cons (pe_ix ix_tup (pv 1) pe_int (fun _ _ => rfl)) pa_nil))) pa_nil))))
  (pss_cons (ps_set (i := 5) sc_bill.nd rfl (Or.inl rfl) (Y.pe_m c_Book_tells_of hr (by decide) pass0 (pv 0) (pa_cons pe_str (pa_cons (pe_ix ix_tup (pv 1) pe_int (fun _ _ => rfl)) pa_nil))))
  (pss_cons (ps_setLc (i := 6) (own := [("k", 8)]) (g := (gName 8)) (tt := tYes) rfl sc_bill.nd rfl rfl (sw_true rfl rfl rfl (by decide +kernel)) (pi_range1 rfl T.b_range (pa_cons (pe_callB call_len_seq (by rfl) T.b_len (by decide +kernel) (pa_cons (pv 2) pa_nil)) pa_nil)) (blkOk_by (own := [("k", 8)]) (N := ["book", "stay", "nights", "prices", "marks", "fee", "rows", "night", "k", "coins", "free"]) (sc := defScope s_bill) (by decide +kernel)) (fun _ _ _ _ _ => (pg_name (i := 8) sc_bill.nd rfl (Or.inl rfl))) (fun _ _ _ _ _ => pts_nil) (fun _ _ _ _ _ => (pe_tup (pa_cons (pe_ix ix_list (pv 2) (pv 8) (fun _ _ => rfl)) (pa_cons (pe_ix ix_list (pv 3) (pv 8) (fun _ _ => rfl)) (pa_cons (pe_ix ix_list (pv 4) (pv 8) (fun _ _ => rfl)) pa_nil))))))
  (pss_one (ps_ret (pe_tup (pa_cons (pe_op op_add (pv 5) (pe_callB (cr_sum rfl) (by rfl) T.b_sum (by decide +kernel) (pa_cons (pe_lc (own := [("night", 7), ("coins", 9), ("free", 10)]) (g := (gTup K 3 (gCons (gName 7) (gCons (gName 9) (gCons (gName 10) gNil))))) (tt := (tNot (tB (tVar 10)))) rfl sc_bill.nd (pi_list (pv 6)) (blkOk_by (own := [("night", 7), ("coins", 9), ("free", 10)]) (N := ["book", "stay", "nights", "prices", "marks", "fee", "rows", "night", "k", "coins", "free"]) (sc := defScope s_bill) (by decide +kernel)) (fun _ _ _ _ _ => (pg_tup (by rfl) (pgs_cons (pg_name (i := 7) sc_bill.nd rfl (Or.inl rfl)) (pgs_cons (pg_name (i := 9) sc_bill.nd rfl (Or.inl rfl)) (pgs_cons (pg_name (i := 10) sc_bill.nd rfl (Or.inl rfl)) pgs_nil))))) (fun _ _ _ _ _ => (pts_one (pt_not (pt_val (pv 10))))) (fun _ _ _ _ _ => (pv 9))) pa_nil))) (pa_cons (pv 6) (pa_cons (pv 5) pa_nil))))))))))))
  · obtain ⟨_, _, rfl, _⟩ := id h
    exact pure_bill h
theorem ok_coins_of (T : Txt K mg) {f : Addr} {fd : FuncData} (F : FunD K "coins_of" "coins_of" (defArgs s_coins_of) (defBody s_coins_of) (defScope s_coins_of) [] [] f fd) (c_can_be_had : Y.Cal P w K mg base CX0 3 "can_be_had" (sp_can_be_had K) []) (c_bill : Y.Cal P w K mg base CX0 3 "bill" (sp_bill K) []) : FnG P w K mg base CX0 4 f fd ["book", "stay"] (sp_coins_of K) := by
  refine g_def F sc_coins_of (fun vs H Q E h => ?_) (fun cdv A outer s H vs Q E hr h => ⟨t_coins_of K, PSs.nox ?_, ?_⟩)
  · obtain ⟨_, _, rfl, _⟩ := h
    rfl
  · exact (pss_cons (ps_if (pt_not (pt_val (Y.pe_c c_can_be_had hr (by decide) rfl pass0 (pa_cons (pv 0) (pa_cons (pv 1) pa_nil))))) (pss_one (ps_ret pe_non)) pss_nil)
  (pss_one (ps_ret (pe_ix ix_tup (Y.pe_c c_bill hr (by decide) rfl pass0 (pa_cons (pv 0) (pa_cons (pv 1) pa_nil))) pe_int (fun _ _ => rfl)))))
  · obtain ⟨_, _, rfl, _⟩ := id h
    exact pure_coins_of h
theorem ok_apart (T : Txt K mg) {f : Addr} {fd : FuncData} (F : FunD K "apart" "apart" (defArgs s_apart) (defBody s_apart) (defScope s_apart) [] [] f fd) (c_Book_rules : Y.Met P w K mg base CX0 3 (He.ga K "Book") "rules" (sp_Book_rules K) []) (c_comes_of : Y.Cal P w K mg base CX0 4 "comes_of" (sp_comes_of K) []) (c_coins_of : Y.Cal P w K mg base CX0 4 "coins_of" (sp_coins_of K) []) : FnG P w K mg base CX0 5 f fd ["one", "other"] (sp_apart K) := by
  refine g_def F sc_apart (fun vs H Q E h => ?_) (fun cdv A outer s H vs Q E hr h => ⟨t_apart K, PSs.nox ?_, ?_⟩)
  · obtain ⟨_, _, rfl, _⟩ := h
    rfl
  · exact (pss_cons (ps_for PassesOwn.never rfl (pi_tup (pe_tup (pa_cons (pv 0) (pa_cons (pv 1) pa_nil)))) (pg_name (i := 2) sc_apart.nd rfl (Or.inl rfl)) (pss_one (ps_if (pt_cmpR op_gt (pe_callB call_len_seq (by rfl) T.b_len (by decide +kernel) (pa_cons (Y.pe_m0 c_Book_rules hr (by decide) pass0 (pv 2)) pa_nil)) (pe_glob rfl T.c_MOST_RULES_twos.choose_spec.1 T.c_MOST_RULES_twos.choose_spec.2) (nomark _)) (pss_one Y.ps_never) pss_nil)))
  (pss_cons (ps_for PassesOwn.never rfl (pi_range2 rfl T.b_range (pa_cons pe_int (pa_cons (pe_op op_add (pe_glob rfl T.c_MOST_NIGHTS.choose_spec.1 T.c_MOST_NIGHTS.choose_spec.2) pe_int) pa_nil))) (pg_name (i := 3) sc_apart.nd rfl (Or.inl rfl)) (pss_one (ps_for PassesOwn.never rfl (pi_list (Y.pe_c c_comes_of hr (by decide) rfl pass0 (pa_cons (pe_lst (pa_cons (pv 0) (pa_cons (pv 1) pa_nil))) (pa_cons (pv 3) pa_nil)))) (pg_name (i := 4) sc_apart.nd rfl (Or.inl rfl)) (pss_cons (ps_set (i := 5) sc_apart.nd rfl (Or.inl rfl) (pe_tup (pa_cons (pv 4) (pa_cons (pe_op op_add (pv 4) (pv 3)) pa_nil))))
  (pss_cons (ps_set (i := 6) sc_apart.nd rfl (Or.inl rfl) (Y.pe_c c_coins_of hr (by decide) rfl pass0 (pa_cons (pv 0) (pa_cons (pv 5) pa_nil))))
  (pss_cons (ps_set (i := 7) sc_apart.nd rfl (Or.inl rfl) (Y.pe_c c_coins_of hr (by decide) rfl pass0 (pa_cons (pv 1) (pa_cons (pv 5) pa_nil))))
  (pss_one (ps_if (pt_cmpR (op_neD hr.units) (pv 6) (pv 7) (nomark _)) (pss_one (ps_ret (pe_tup (pa_cons (pv 5) (pa_cons (pv 6) (pa_cons (pv 7) pa_nil)))))) pss_nil))))))))
  (pss_one (ps_ret pe_non))))
  · obtain ⟨_, _, rfl, _⟩ := id h
    exact pure_apart h
theorem ok_Lwhole (T : Txt K mg) {f : Addr} {fd : FuncData} (F : FunD K "_law_whole" "_law_whole" (defArgs s_Lwhole) (defBody s_Lwhole) (defScope s_Lwhole) [] [] f fd)  : FnG P w K mg base CX0 1 f fd ["_law_found"] (sp_Lwhole K) := by
  refine g_def F sc_Lwhole (fun vs H Q E h => ?_) (fun cdv A outer s H vs Q E hr h => ⟨t_Lwhole K, PSs.nox ?_, ?_⟩)
  · obtain ⟨_, rfl, _⟩ := h
    rfl
  · exact (pss_cons (ps_if (pt_cmpR op_isN (pv 0) pe_non (nomark _)) (pss_one (ps_ret pe_bl)) pss_nil)
  (pss_cons (ps_if (PW.pt (pw_or (pt_not (pt_val (pe_callB call_isi (by rfl) T.b_isinstance (by decide +kernel) (pa_cons (pv 0) (pa_cons (pe_bltn (v := .ty "tuple") (by rfl) T.b_tuple (by decide +kernel) rfl) pa_nil))))) (pw_or1 (pt_not (pt_val (pe_callB call_isi (by rfl) T.b_isinstance (by decide +kernel) (pa_cons (pe_ix ix_tup (pv 0) pe_int (fun _ _ => rfl)) (pa_cons (pe_bltn (v := .ty "tuple") (by rfl) T.b_tuple (by decide +kernel) rfl) pa_nil)))))))) (pss_one (ps_ret pe_bl)) pss_nil)
  (pss_one (ps_ret (pe_cmpR op_eq (pe_callB call_len_seq (by rfl) T.b_len (by decide +kernel) (pa_cons (pe_lc (own := [("_law_one", 1)]) (g := (gName 1)) (tt := (tB (tCB (rIsi K) (tCons (tVar 1) (tCons (tC (.ty "bool")) tNil))))) rfl sc_Lwhole.nd (pi_tup (pe_op op_catT (pe_ix ix_tup (pv 0) pe_int (fun _ _ => rfl)) (pe_slice sl_tup (pv 0) (po_some pe_int) po_none))) (blkOk_by (own := [("_law_one", 1)]) (N := ["_law_found", "_law_one"]) (sc := defScope s_Lwhole) (by decide +kernel)) (fun _ _ _ _ _ => (pg_name (i := 1) sc_Lwhole.nd rfl (Or.inl rfl))) (fun _ _ _ _ _ => (pts_one (pt_val (pe_callB call_isi (by rfl) T.b_isinstance (by decide +kernel) (pa_cons (pv 1) (pa_cons (pe_bltn (v := .ty "bool") (by rfl) T.b_bool (by decide +kernel) rfl) pa_nil)))))) (fun _ _ _ _ _ => (pv 1))) pa_nil)) pe_int (nomark _))))))
  · obtain ⟨_, rfl, _⟩ := id h
    exact pure_Lwhole h
theorem ok_law (T : Txt K mg) {f : Addr} {fd : FuncData} (F : FunD K "law" "law" (defArgs s_law) (defBody s_law) (defScope s_law) [] [] f fd) (c_Lbegin : Y.Cal P w K mg base CX0 1 "_law_begin" (sp_Lbegin K) []) (c_Lday : Y.Cal P w K mg base CX0 2 "_law_day" (sp_Lday K) []) (c_Ltwo : Y.Cal P w K mg base CX0 6 "_law_two" (sp_Ltwo K) []) (c_Ldue : Y.Cal P w K mg base CX0 3 "_law_due" (sp_Ldue K) []) (c_Book : Y.Mak P w K mg base CX0 6 "Book" (He.ga K "Book") (sp_Book_init K) []) (c_apart : Y.Cal P w K mg base CX0 5 "apart" (sp_apart K) []) (c_Lwhole : Y.Cal P w K mg base CX0 1 "_law_whole" (sp_Lwhole K) []) (c_Book_rules : Y.Met P w K mg base CX0 3 (He.ga K "Book") "rules" (sp_Book_rules K) []) : FnG P w K mg base CX0 8 f fd ["_law_script"] (sp_law K) := by
  refine g_def F sc_law (fun vs H Q E h => ?_) (fun cdv A outer s H vs Q E hr h => ⟨t_law K, PSs.nox ?_, ?_⟩)
  · obtain ⟨_, rfl, _⟩ := h
    rfl
  · exact (pss_cons (ps_for PassesOwn.never rfl (pi_list (pe_op op_cat (pe_lst (pa_cons pe_int pa_nil)) (pe_slice sl_list (pv 0) po_none (po_some pe_int)))) (pg_name (i := 1) sc_law.nd rfl (Or.inl rfl)) (pss_cons (ps_set (i := 2) sc_law.nd rfl (Or.inl rfl) (Y.pe_c c_Lbegin hr (by decide) rfl pass0 (pa_cons (pv 1) pa_nil)))
  (pss_cons (ps_set (i := 3) sc_law.nd rfl (Or.inl rfl) (Y.pe_c c_Lday hr (by decide) rfl pass0 (pa_cons (pv 2) pa_nil)))
  (pss_cons (ps_asg (Y.pe_c c_Ltwo hr (by decide) rfl pass0 (pa_cons (pv 2) (pa_cons (pv 3) pa_nil))) (pg_tup (by rfl) (pgs_cons (pg_name (i := 4) sc_law.nd rfl (Or.inl rfl)) (pgs_cons (pg_name (i := 5) sc_law.nd rfl (Or.inl rfl)) pgs_nil))))
  (pss_cons (ps_set (i := 6) sc_law.nd rfl (Or.inl rfl) (Y.pe_c c_Ldue hr (by decide) rfl pass0 (pa_cons (pv 4) (pa_cons (pv 5) pa_nil))))
  (pss_cons (ps_set (i := 7) sc_law.nd rfl (Or.inl rfl) (Y.pe_k c_Book hr (by decide) rfl pass0 (pa_cons (pv 4) pa_nil)))
  (pss_cons (ps_set (i := 8) sc_law.nd rfl (Or.inl rfl) (Y.pe_k c_Book hr (by decide) rfl pass0 (pa_cons (pv 5) pa_nil)))
  (pss_cons (ps_set (i := 9) sc_law.nd rfl (Or.inl rfl) (Y.pe_c c_apart hr (by decide) rfl pass0 (pa_cons (pv 7) (pa_cons (pv 8) pa_nil))))
  (pss_cons (ps_if (PW.pt (pw_or (pt_cmpR (op_neD hr.units) (pv 9) (pv 6) (nomark _)) (pw_or1 (pt_not (pt_val (Y.pe_c c_Lwhole hr (by decide) rfl pass0 (pa_cons (pv 9) pa_nil))))))) (pss_one (ps_ret pe_bl)) pss_nil)
  (pss_cons (ps_set (i := 10) sc_law.nd rfl (Or.inl rfl) (Y.pe_c c_apart hr (by decide) rfl pass0 (pa_cons (pv 8) (pa_cons (pv 7) pa_nil))))
  (pss_cons (ps_if (PW.pt (pw_or (PW.pt (pw_and (pt_cmpR op_isN (pv 6) pe_non (nomark _)) (pw_and1 (pt_cmpR op_notN (pv 10) pe_non (nomark _))))) (pw_or1 (PW.pt (pw_and (pt_cmpR op_notN (pv 6) pe_non (nomark _)) (pw_and1 (pt_cmpR (op_neD hr.units) (pv 10) (pe_tup (pa_cons (pe_ix ix_tup (pv 6) pe_int (fun _ _ => rfl)) (pa_cons (pe_ix ix_tup (pv 6) pe_int (fun _ _ => rfl)) (pa_cons (pe_ix ix_tup (pv 6) pe_int (fun _ _ => rfl)) pa_nil)))) (nomark _)))))))) (pss_one (ps_ret pe_bl)) pss_nil)
  (pss_one (ps_if (PW.pt (pw_or (pt_cmpR (op_neD hr.units) (Y.pe_m0 c_Book_rules hr (by decide) pass0 (pv 7)) (pv 4) (nomark _)) (pw_or1 (pt_cmpR (op_neD hr.units) (Y.pe_m0 c_Book_rules hr (by decide) pass0 (pv 8)) (pv 5) (nomark _))))) (pss_one (ps_ret pe_bl)) pss_nil)))))))))))))
  (pss_one (ps_ret pe_bl)))
  · obtain ⟨_, rfl, _⟩ := id h
    exact pure_law h
end
theorem facts {P : Program} {w : World} {K : PySem.W.Frag} {h : Heap} {mg : Str → Option Value} {f : Addr} (X : K.In h) (G : h.Ns mainGlobals mg) (hfa : mg ("law" : Str) = some (.ref f)) (c : He.SaysD fa fn K) :
    ∃ fd : FuncData, (∀ (s : Shared) (v : Value), BindsTo s fd ⟨[v], []⟩ [("_law_script", v)]) ∧ ∀ base : Heap, K.In base → base.Ns mainGlobals mg → FnG P w K mg base CX0 8 f fd ["_law_script"] (sp_law K) := by
  obtain ⟨fd_Lbegin, F_Lbegin⟩ := c.def_ 0 (d := d_Lbegin) rfl
  obtain ⟨fd_Ltake, F_Ltake⟩ := c.def_ 1 (d := d_Ltake) rfl
  obtain ⟨fd_Lday, F_Lday⟩ := c.def_ 2 (d := d_Lday) rfl
  obtain ⟨fd_Llong, F_Llong⟩ := c.def_ 3 (d := d_Llong) rfl
  obtain ⟨fd_Lcoins, F_Lcoins⟩ := c.def_ 4 (d := d_Lcoins) rfl
  obtain ⟨fd_Lworth, F_Lworth⟩ := c.def_ 5 (d := d_Lworth) rfl
  obtain ⟨fd_Lrule, F_Lrule⟩ := c.def_ 6 (d := d_Lrule) rfl
  obtain ⟨fd_Lfew, F_Lfew⟩ := c.def_ 7 (d := d_Lfew) rfl
  obtain ⟨fd_Lturned, F_Lturned⟩ := c.def_ 8 (d := d_Lturned) rfl
  obtain ⟨fd_Ltwo, F_Ltwo⟩ := c.def_ 9 (d := d_Ltwo) rfl
  obtain ⟨fd_Lcomes, F_Lcomes⟩ := c.def_ 10 (d := d_Lcomes) rfl
  obtain ⟨fd_Ltells, F_Ltells⟩ := c.def_ 11 (d := d_Ltells) rfl
  obtain ⟨fd_Lprice, F_Lprice⟩ := c.def_ 12 (d := d_Lprice) rfl
  obtain ⟨fd_Ldue, F_Ldue⟩ := c.def_ 13 (d := d_Ldue) rfl
  obtain ⟨fd_is_whole, F_is_whole⟩ := c.def_ 14 (d := d_is_whole) rfl
  obtain ⟨fd_is_day, F_is_day⟩ := c.def_ 15 (d := d_is_day) rfl
  obtain ⟨fd_is_two_days, F_is_two_days⟩ := c.def_ 16 (d := d_is_two_days) rfl
  obtain ⟨fd_is_stretch, F_is_stretch⟩ := c.def_ 17 (d := d_is_stretch) rfl
  obtain ⟨fd_Price_init, F_Price_init⟩ := c.def_ 18 (d := d_Price_init) rfl
  obtain ⟨fd_Come_init, F_Come_init⟩ := c.def_ 19 (d := d_Come_init) rfl
  obtain ⟨fd_Go_init, F_Go_init⟩ := c.def_ 20 (d := d_Go_init) rfl
  obtain ⟨fd_Least_init, F_Least_init⟩ := c.def_ 21 (d := d_Least_init) rfl
  obtain ⟨fd_Most_init, F_Most_init⟩ := c.def_ 22 (d := d_Most_init) rfl
  obtain ⟨fd_Deal_init, F_Deal_init⟩ := c.def_ 23 (d := d_Deal_init) rfl
  obtain ⟨fd_Fee_init, F_Fee_init⟩ := c.def_ 24 (d := d_Fee_init) rfl
  obtain ⟨fd_made, F_made⟩ := c.def_ 25 (d := d_made) rfl
  obtain ⟨fd_is_coins, F_is_coins⟩ := c.def_ 26 (d := d_is_coins) rfl
  obtain ⟨fd_Price_fits, F_Price_fits⟩ := c.def_ 27 (d := d_Price_fits) rfl
  obtain ⟨fd_Come_fits, F_Come_fits⟩ := c.def_ 28 (d := d_Come_fits) rfl
  obtain ⟨fd_Go_fits, F_Go_fits⟩ := c.def_ 29 (d := d_Go_fits) rfl
  obtain ⟨fd_is_nights, F_is_nights⟩ := c.def_ 30 (d := d_is_nights) rfl
  obtain ⟨fd_Least_fits, F_Least_fits⟩ := c.def_ 31 (d := d_Least_fits) rfl
  obtain ⟨fd_Most_fits, F_Most_fits⟩ := c.def_ 32 (d := d_Most_fits) rfl
  obtain ⟨fd_Deal_fits, F_Deal_fits⟩ := c.def_ 33 (d := d_Deal_fits) rfl
  obtain ⟨fd_Fee_fits, F_Fee_fits⟩ := c.def_ 34 (d := d_Fee_fits) rfl
  obtain ⟨fd_rule_of, F_rule_of⟩ := c.def_ 35 (d := d_rule_of) rfl
  obtain ⟨fd_Price_word, F_Price_word⟩ := c.def_ 36 (d := d_Price_word) rfl
  obtain ⟨fd_Come_word, F_Come_word⟩ := c.def_ 37 (d := d_Come_word) rfl
  obtain ⟨fd_Go_word, F_Go_word⟩ := c.def_ 38 (d := d_Go_word) rfl
  obtain ⟨fd_Least_word, F_Least_word⟩ := c.def_ 39 (d := d_Least_word) rfl
  obtain ⟨fd_Most_word, F_Most_word⟩ := c.def_ 40 (d := d_Most_word) rfl
  obtain ⟨fd_Deal_word, F_Deal_word⟩ := c.def_ 41 (d := d_Deal_word) rfl
  obtain ⟨fd_Fee_word, F_Fee_word⟩ := c.def_ 42 (d := d_Fee_word) rfl
  obtain ⟨fd_Book_init, F_Book_init⟩ := c.def_ 43 (d := d_Book_init) rfl
  obtain ⟨fd_Price_told, F_Price_told⟩ := c.def_ 44 (d := d_Price_told) rfl
  obtain ⟨fd_Come_told, F_Come_told⟩ := c.def_ 45 (d := d_Come_told) rfl
  obtain ⟨fd_Go_told, F_Go_told⟩ := c.def_ 46 (d := d_Go_told) rfl
  obtain ⟨fd_Least_told, F_Least_told⟩ := c.def_ 47 (d := d_Least_told) rfl
  obtain ⟨fd_Most_told, F_Most_told⟩ := c.def_ 48 (d := d_Most_told) rfl
  obtain ⟨fd_Deal_told, F_Deal_told⟩ := c.def_ 49 (d := d_Deal_told) rfl
  obtain ⟨fd_Fee_told, F_Fee_told⟩ := c.def_ 50 (d := d_Fee_told) rfl
  obtain ⟨fd_Book_rules, F_Book_rules⟩ := c.def_ 51 (d := d_Book_rules) rfl
  obtain ⟨fd_backs_of, F_backs_of⟩ := c.def_ 52 (d := d_backs_of) rfl
  obtain ⟨fd_comes_of, F_comes_of⟩ := c.def_ 53 (d := d_comes_of) rfl
  obtain ⟨fd_Price_tells, F_Price_tells⟩ := c.def_ 54 (d := d_Price_tells) rfl
  obtain ⟨fd_Come_tells, F_Come_tells⟩ := c.def_ 55 (d := d_Come_tells) rfl
  obtain ⟨fd_Go_tells, F_Go_tells⟩ := c.def_ 56 (d := d_Go_tells) rfl
  obtain ⟨fd_Least_tells, F_Least_tells⟩ := c.def_ 57 (d := d_Least_tells) rfl
  obtain ⟨fd_Most_tells, F_Most_tells⟩ := c.def_ 58 (d := d_Most_tells) rfl
  obtain ⟨fd_Deal_tells, F_Deal_tells⟩ := c.def_ 59 (d := d_Deal_tells) rfl
  obtain ⟨fd_Fee_tells, F_Fee_tells⟩ := c.def_ 60 (d := d_Fee_tells) rfl
  obtain ⟨fd_usual, F_usual⟩ := c.def_ 61 (d := d_usual) rfl
  obtain ⟨fd_Book_tells_of, F_Book_tells_of⟩ := c.def_ 62 (d := d_Book_tells_of) rfl
  obtain ⟨fd_nights_of, F_nights_of⟩ := c.def_ 63 (d := d_nights_of) rfl
  obtain ⟨fd_can_be_had, F_can_be_had⟩ := c.def_ 64 (d := d_can_be_had) rfl
  obtain ⟨fd_marked, F_marked⟩ := c.def_ 65 (d := d_marked) rfl
  obtain ⟨fd_bill, F_bill⟩ := c.def_ 66 (d := d_bill) rfl
  obtain ⟨fd_coins_of, F_coins_of⟩ := c.def_ 67 (d := d_coins_of) rfl
  obtain ⟨fd_apart, F_apart⟩ := c.def_ 68 (d := d_apart) rfl
  obtain ⟨fd_Lwhole, F_Lwhole⟩ := c.def_ 69 (d := d_Lwhole) rfl
  obtain ⟨fd_law, F_law⟩ := c.def_ 70 (d := d_law) rfl
  obtain ⟨tk0, ek0⟩ := He.int_ok X G (c.fact 93 (f := .int "LAST_DAY" 1000000) rfl)
  obtain ⟨tk1, ek1⟩ := He.int_ok X G (c.fact 94 (f := .int "MOST_COINS" 1000000000000) rfl)
  obtain ⟨tk2, ek2⟩ := He.int_ok X G (c.fact 95 (f := .int "MOST_NIGHTS" 14) rfl)
  obtain ⟨tk3, ek3⟩ := He.int_ok X G (c.fact 96 (f := .int "MOST_RULES_books" 24) rfl)
  obtain ⟨tk4, ek4⟩ := He.int_ok X G (c.fact 97 (f := .int "MOST_RULES_twos" 12) rfl)
  have T : Txt K mg := ⟨He.free_ok X G (c.fact 79 (f := .free "bool") rfl), He.free_ok X G (c.fact 80 (f := .free "enumerate") rfl), He.free_ok X G (c.fact 81 (f := .free "int") rfl), He.free_ok X G (c.fact 82 (f := .free "isinstance") rfl), He.free_ok X G (c.fact 83 (f := .free "len") rfl), He.free_ok X G (c.fact 84 (f := .free "list") rfl), He.free_ok X G (c.fact 85 (f := .free "max") rfl), He.free_ok X G (c.fact 86 (f := .free "min") rfl), He.free_ok X G (c.fact 87 (f := .free "range") rfl), He.free_ok X G (c.fact 88 (f := .free "set") rfl), He.free_ok X G (c.fact 89 (f := .free "sorted") rfl), He.free_ok X G (c.fact 90 (f := .free "str") rfl), He.free_ok X G (c.fact 91 (f := .free "sum") rfl), He.free_ok X G (c.fact 92 (f := .free "tuple") rfl), ⟨_, ek0, tk0, rfl⟩, ⟨_, ek1, tk1, rfl⟩, ⟨_, ek2, tk2, rfl⟩, ⟨_, ek3, tk3, rfl⟩, ⟨_, ek4, tk4, rfl⟩, ⟨_, He.glo_ok X G (c.fact 98 (f := .glo "WORDS") rfl), rfl⟩, He.glo_ok X G (c.fact 99 (f := .glo "Book") rfl), He.glo_ok X G (c.fact 100 (f := .glo "Come") rfl), He.glo_ok X G (c.fact 101 (f := .glo "Deal") rfl), He.glo_ok X G (c.fact 102 (f := .glo "Fee") rfl), He.glo_ok X G (c.fact 103 (f := .glo "Go") rfl), He.glo_ok X G (c.fact 104 (f := .glo "Least") rfl), He.glo_ok X G (c.fact 105 (f := .glo "Most") rfl), He.glo_ok X G (c.fact 106 (f := .glo "Price") rfl)⟩
  have e := hfa.symm.trans (He.glo_ok X G (c.fact 78 (f := .glo "law") rfl))
  cases e
  have b := FunD.bindsA (ps := ["_law_script"]) F_law fun _ _ _ _ _ _ us hl => match us, hl with | [_], _ => rfl
  refine ⟨fd_law, fun s v => b s [v] rfl, fun base _ _ => ?_⟩
  have c_Lbegin : Y.Cal P w K mg base CX0 1 "_law_begin" (sp_Lbegin K) [] := ⟨_, fd_Lbegin, ["_law_cell"], [], ok_Lbegin T F_Lbegin , He.glo_ok X G (c.fact 0 (f := .glo "_law_begin") rfl), F_Lbegin.kp, F_Lbegin.bindsN fun _ _ _ _ _ _ us hl => match us, hl with | [_], _ => rfl, .nil⟩
  have c_Ltake : Y.Cal P w K mg base CX0 1 "_law_take" (sp_Ltake K) [] := ⟨_, fd_Ltake, ["_law_row", "_law_base"], [], ok_Ltake T F_Ltake , He.glo_ok X G (c.fact 1 (f := .glo "_law_take") rfl), F_Ltake.kp, F_Ltake.bindsN fun _ _ _ _ _ _ us hl => match us, hl with | [_, _], _ => rfl, .nil⟩
  have c_Lday : Y.Cal P w K mg base CX0 2 "_law_day" (sp_Lday K) [] := ⟨_, fd_Lday, ["_law_row"], [], ok_Lday T F_Lday c_Ltake, He.glo_ok X G (c.fact 2 (f := .glo "_law_day") rfl), F_Lday.kp, F_Lday.bindsN fun _ _ _ _ _ _ us hl => match us, hl with | [_], _ => rfl, .nil⟩
  have c_Llong : Y.Cal P w K mg base CX0 2 "_law_long" (sp_Llong K) [] := ⟨_, fd_Llong, ["_law_row", "_law_day_here"], [], ok_Llong T F_Llong c_Ltake, He.glo_ok X G (c.fact 3 (f := .glo "_law_long") rfl), F_Llong.kp, F_Llong.bindsN fun _ _ _ _ _ _ us hl => match us, hl with | [_, _], _ => rfl, .nil⟩
  have c_Lcoins : Y.Cal P w K mg base CX0 2 "_law_coins" (sp_Lcoins K) [] := ⟨_, fd_Lcoins, ["_law_row"], [], ok_Lcoins T F_Lcoins c_Ltake, He.glo_ok X G (c.fact 4 (f := .glo "_law_coins") rfl), F_Lcoins.kp, F_Lcoins.bindsN fun _ _ _ _ _ _ us hl => match us, hl with | [_], _ => rfl, .nil⟩
  have c_Lworth : Y.Cal P w K mg base CX0 3 "_law_worth" (sp_Lworth K) [] := ⟨_, fd_Lworth, ["_law_row", "_law_word"], [], ok_Lworth T F_Lworth c_Ltake c_Lcoins, He.glo_ok X G (c.fact 5 (f := .glo "_law_worth") rfl), F_Lworth.kp, F_Lworth.bindsN fun _ _ _ _ _ _ us hl => match us, hl with | [_, _], _ => rfl, .nil⟩
  have c_Lrule : Y.Cal P w K mg base CX0 4 "_law_rule" (sp_Lrule K) [] := ⟨_, fd_Lrule, ["_law_row", "_law_day_here"], [], ok_Lrule T F_Lrule c_Ltake c_Lworth, He.glo_ok X G (c.fact 6 (f := .glo "_law_rule") rfl), F_Lrule.kp, F_Lrule.bindsN fun _ _ _ _ _ _ us hl => match us, hl with | [_, _], _ => rfl, .nil⟩
  have c_Lfew : Y.Cal P w K mg base CX0 5 "_law_few" (sp_Lfew K) [] := ⟨_, fd_Lfew, ["_law_row", "_law_day_here", "_law_most"], [], ok_Lfew T F_Lfew c_Ltake c_Lrule, He.glo_ok X G (c.fact 7 (f := .glo "_law_few") rfl), F_Lfew.kp, F_Lfew.bindsN fun _ _ _ _ _ _ us hl => match us, hl with | [_, _, _], _ => rfl, .nil⟩
  have c_Lturned : Y.Cal P w K mg base CX0 5 "_law_turned" (sp_Lturned K) [] := ⟨_, fd_Lturned, ["_law_row", "_law_rules", "_law_day_here"], [], ok_Lturned T F_Lturned c_Ltake c_Lrule c_Lworth, He.glo_ok X G (c.fact 8 (f := .glo "_law_turned") rfl), F_Lturned.kp, F_Lturned.bindsN fun _ _ _ _ _ _ us hl => match us, hl with | [_, _, _], _ => rfl, .nil⟩
  have c_Ltwo : Y.Cal P w K mg base CX0 6 "_law_two" (sp_Ltwo K) [] := ⟨_, fd_Ltwo, ["_law_row", "_law_day_here"], [], ok_Ltwo T F_Ltwo c_Ltake c_Llong c_Lfew c_Lturned, He.glo_ok X G (c.fact 9 (f := .glo "_law_two") rfl), F_Ltwo.kp, F_Ltwo.bindsN fun _ _ _ _ _ _ us hl => match us, hl with | [_, _], _ => rfl, .nil⟩
  have c_Lcomes : Y.Cal P w K mg base CX0 1 "_law_comes" (sp_Lcomes K) [] := ⟨_, fd_Lcomes, ["_law_books", "_law_nights"], [], ok_Lcomes T F_Lcomes , He.glo_ok X G (c.fact 10 (f := .glo "_law_comes") rfl), F_Lcomes.kp, F_Lcomes.bindsN fun _ _ _ _ _ _ us hl => match us, hl with | [_, _], _ => rfl, .nil⟩
  have c_Ltells : Y.Cal P w K mg base CX0 1 "_law_tells" (sp_Ltells K) [] := ⟨_, fd_Ltells, ["_law_rules", "_law_word", "_law_day_here"], [], ok_Ltells T F_Ltells , He.glo_ok X G (c.fact 11 (f := .glo "_law_tells") rfl), F_Ltells.kp, F_Ltells.bindsN fun _ _ _ _ _ _ us hl => match us, hl with | [_, _, _], _ => rfl, .nil⟩
  have c_Lprice : Y.Cal P w K mg base CX0 2 "_law_price" (sp_Lprice K) [] := ⟨_, fd_Lprice, ["_law_rules", "_law_begin_here", "_law_end"], [], ok_Lprice T F_Lprice c_Ltells, He.glo_ok X G (c.fact 12 (f := .glo "_law_price") rfl), F_Lprice.kp, F_Lprice.bindsN fun _ _ _ _ _ _ us hl => match us, hl with | [_, _, _], _ => rfl, .nil⟩
  have c_Ldue : Y.Cal P w K mg base CX0 3 "_law_due" (sp_Ldue K) [] := ⟨_, fd_Ldue, ["_law_one", "_law_other"], [], ok_Ldue T F_Ldue c_Lcomes c_Lprice, He.glo_ok X G (c.fact 13 (f := .glo "_law_due") rfl), F_Ldue.kp, F_Ldue.bindsN fun _ _ _ _ _ _ us hl => match us, hl with | [_, _], _ => rfl, .nil⟩
  have c_is_whole : Y.Cal P w K mg base CX0 1 "is_whole" (sp_is_whole K) [] := ⟨_, fd_is_whole, ["thing"], [], ok_is_whole T F_is_whole , He.glo_ok X G (c.fact 14 (f := .glo "is_whole") rfl), F_is_whole.kp, F_is_whole.bindsN fun _ _ _ _ _ _ us hl => match us, hl with | [_], _ => rfl, .nil⟩
  have c_is_day : Y.Cal P w K mg base CX0 2 "is_day" (sp_is_day K) [] := ⟨_, fd_is_day, ["thing"], [], ok_is_day T F_is_day c_is_whole, He.glo_ok X G (c.fact 15 (f := .glo "is_day") rfl), F_is_day.kp, F_is_day.bindsN fun _ _ _ _ _ _ us hl => match us, hl with | [_], _ => rfl, .nil⟩
  have c_is_two_days : Y.Cal P w K mg base CX0 3 "is_two_days" (sp_is_two_days K) [] := ⟨_, fd_is_two_days, ["thing"], [], ok_is_two_days T F_is_two_days c_is_day, He.glo_ok X G (c.fact 16 (f := .glo "is_two_days") rfl), F_is_two_days.kp, F_is_two_days.bindsN fun _ _ _ _ _ _ us hl => match us, hl with | [_], _ => rfl, .nil⟩
  have c_is_stretch : Y.Cal P w K mg base CX0 4 "is_stretch" (sp_is_stretch K) [] := ⟨_, fd_is_stretch, ["thing"], [], ok_is_stretch T F_is_stretch c_is_two_days, He.glo_ok X G (c.fact 17 (f := .glo "is_stretch") rfl), F_is_stretch.kp, F_is_stretch.bindsN fun _ _ _ _ _ _ us hl => match us, hl with | [_], _ => rfl, .nil⟩
  have c_Price : Y.Mak P w K mg base CX0 1 "Price" (He.ga K "Price") (sp_Rule_init K) [] := ⟨_, fd_Price_init, ["self", "first", "last", "worth"], [], He.mkr_ok (c.fact 18 (f := .mkr "Price") rfl), ok_Rule_init T F_Price_init , He.glo_ok X G (c.fact 106 (f := .glo "Price") rfl), F_Price_init.bindsN fun _ _ _ _ _ _ us hl => match us, hl with | [_, _, _, _], _ => rfl, .nil⟩
  have c_Come : Y.Mak P w K mg base CX0 1 "Come" (He.ga K "Come") (sp_Rule_init K) [] := ⟨_, fd_Come_init, ["self", "first", "last", "worth"], [], He.mkr_ok (c.fact 19 (f := .mkr "Come") rfl), ok_Rule_init T F_Come_init , He.glo_ok X G (c.fact 100 (f := .glo "Come") rfl), F_Come_init.bindsN fun _ _ _ _ _ _ us hl => match us, hl with | [_, _, _, _], _ => rfl, .nil⟩
  have c_Go : Y.Mak P w K mg base CX0 1 "Go" (He.ga K "Go") (sp_Rule_init K) [] := ⟨_, fd_Go_init, ["self", "first", "last", "worth"], [], He.mkr_ok (c.fact 20 (f := .mkr "Go") rfl), ok_Rule_init T F_Go_init , He.glo_ok X G (c.fact 103 (f := .glo "Go") rfl), F_Go_init.bindsN fun _ _ _ _ _ _ us hl => match us, hl with | [_, _, _, _], _ => rfl, .nil⟩
  have c_Least : Y.Mak P w K mg base CX0 1 "Least" (He.ga K "Least") (sp_Rule_init K) [] := ⟨_, fd_Least_init, ["self", "first", "last", "worth"], [], He.mkr_ok (c.fact 21 (f := .mkr "Least") rfl), ok_Rule_init T F_Least_init , He.glo_ok X G (c.fact 104 (f := .glo "Least") rfl), F_Least_init.bindsN fun _ _ _ _ _ _ us hl => match us, hl with | [_, _, _, _], _ => rfl, .nil⟩
  have c_Most : Y.Mak P w K mg base CX0 1 "Most" (He.ga K "Most") (sp_Rule_init K) [] := ⟨_, fd_Most_init, ["self", "first", "last", "worth"], [], He.mkr_ok (c.fact 22 (f := .mkr "Most") rfl), ok_Rule_init T F_Most_init , He.glo_ok X G (c.fact 105 (f := .glo "Most") rfl), F_Most_init.bindsN fun _ _ _ _ _ _ us hl => match us, hl with | [_, _, _, _], _ => rfl, .nil⟩
  have c_Deal : Y.Mak P w K mg base CX0 1 "Deal" (He.ga K "Deal") (sp_Rule_init K) [] := ⟨_, fd_Deal_init, ["self", "first", "last", "worth"], [], He.mkr_ok (c.fact 23 (f := .mkr "Deal") rfl), ok_Rule_init T F_Deal_init , He.glo_ok X G (c.fact 101 (f := .glo "Deal") rfl), F_Deal_init.bindsN fun _ _ _ _ _ _ us hl => match us, hl with | [_, _, _, _], _ => rfl, .nil⟩
  have c_Fee : Y.Mak P w K mg base CX0 1 "Fee" (He.ga K "Fee") (sp_Rule_init K) [] := ⟨_, fd_Fee_init, ["self", "first", "last", "worth"], [], He.mkr_ok (c.fact 24 (f := .mkr "Fee") rfl), ok_Rule_init T F_Fee_init , He.glo_ok X G (c.fact 102 (f := .glo "Fee") rfl), F_Fee_init.bindsN fun _ _ _ _ _ _ us hl => match us, hl with | [_, _, _, _], _ => rfl, .nil⟩
  have c_made : Y.Cal P w K mg base CX0 3 "made" (sp_made K) [] := ⟨_, fd_made, ["word", "first", "last", "worth"], [], ok_made T F_made c_Price c_Come c_Go c_Least c_Most c_Deal c_Fee, He.glo_ok X G (c.fact 25 (f := .glo "made") rfl), F_made.kp, F_made.bindsN fun _ _ _ _ _ _ us hl => match us, hl with | [_, _, _, _], _ => rfl, .nil⟩
  have c_is_coins : Y.Cal P w K mg base CX0 2 "is_coins" (sp_is_coins K) [] := ⟨_, fd_is_coins, ["thing"], [], ok_is_coins T F_is_coins c_is_whole, He.glo_ok X G (c.fact 26 (f := .glo "is_coins") rfl), F_is_coins.kp, F_is_coins.bindsN fun _ _ _ _ _ _ us hl => match us, hl with | [_], _ => rfl, .nil⟩
  have c_Price_fits : Y.Met P w K mg base CX0 3 (He.ga K "Price") "fits" (sp_Price_fits K) [] := ⟨_, fd_Price_fits, ["self"], [], He.cls_ok (c.fact 27 (f := .cls "Price") rfl), He.meth_ok (c.fact 28 (f := .meth "Price" "fits") rfl), ok_Price_fits T F_Price_fits c_is_coins, F_Price_fits.bindsN fun _ _ _ _ _ _ us hl => match us, hl with | [_], _ => rfl, .nil⟩
  have c_Come_fits : Y.Met P w K mg base CX0 1 (He.ga K "Come") "fits" (sp_Come_fits K) [] := ⟨_, fd_Come_fits, ["self"], [], He.cls_ok (c.fact 29 (f := .cls "Come") rfl), He.meth_ok (c.fact 30 (f := .meth "Come" "fits") rfl), ok_Come_fits T F_Come_fits , F_Come_fits.bindsN fun _ _ _ _ _ _ us hl => match us, hl with | [_], _ => rfl, .nil⟩
  have c_Go_fits : Y.Met P w K mg base CX0 1 (He.ga K "Go") "fits" (sp_Go_fits K) [] := ⟨_, fd_Go_fits, ["self"], [], He.cls_ok (c.fact 31 (f := .cls "Go") rfl), He.meth_ok (c.fact 32 (f := .meth "Go" "fits") rfl), ok_Go_fits T F_Go_fits , F_Go_fits.bindsN fun _ _ _ _ _ _ us hl => match us, hl with | [_], _ => rfl, .nil⟩
  have c_is_nights : Y.Cal P w K mg base CX0 2 "is_nights" (sp_is_nights K) [] := ⟨_, fd_is_nights, ["thing"], [], ok_is_nights T F_is_nights c_is_whole, He.glo_ok X G (c.fact 33 (f := .glo "is_nights") rfl), F_is_nights.kp, F_is_nights.bindsN fun _ _ _ _ _ _ us hl => match us, hl with | [_], _ => rfl, .nil⟩
  have c_Least_fits : Y.Met P w K mg base CX0 3 (He.ga K "Least") "fits" (sp_Least_fits K) [] := ⟨_, fd_Least_fits, ["self"], [], He.cls_ok (c.fact 34 (f := .cls "Least") rfl), He.meth_ok (c.fact 35 (f := .meth "Least" "fits") rfl), ok_Least_fits T F_Least_fits c_is_nights, F_Least_fits.bindsN fun _ _ _ _ _ _ us hl => match us, hl with | [_], _ => rfl, .nil⟩
  have c_Most_fits : Y.Met P w K mg base CX0 3 (He.ga K "Most") "fits" (sp_Most_fits K) [] := ⟨_, fd_Most_fits, ["self"], [], He.cls_ok (c.fact 36 (f := .cls "Most") rfl), He.meth_ok (c.fact 37 (f := .meth "Most" "fits") rfl), ok_Most_fits T F_Most_fits c_is_nights, F_Most_fits.bindsN fun _ _ _ _ _ _ us hl => match us, hl with | [_], _ => rfl, .nil⟩
  have c_Deal_fits : Y.Met P w K mg base CX0 3 (He.ga K "Deal") "fits" (sp_Deal_fits K) [] := ⟨_, fd_Deal_fits, ["self"], [], He.cls_ok (c.fact 38 (f := .cls "Deal") rfl), He.meth_ok (c.fact 39 (f := .meth "Deal" "fits") rfl), ok_Deal_fits T F_Deal_fits c_is_nights c_is_whole, F_Deal_fits.bindsN fun _ _ _ _ _ _ us hl => match us, hl with | [_], _ => rfl, .nil⟩
  have c_Fee_fits : Y.Met P w K mg base CX0 3 (He.ga K "Fee") "fits" (sp_Fee_fits K) [] := ⟨_, fd_Fee_fits, ["self"], [], He.cls_ok (c.fact 40 (f := .cls "Fee") rfl), He.meth_ok (c.fact 41 (f := .meth "Fee" "fits") rfl), ok_Fee_fits T F_Fee_fits c_is_coins, F_Fee_fits.bindsN fun _ _ _ _ _ _ us hl => match us, hl with | [_], _ => rfl, .nil⟩
  have c_rule_of : Y.Cal P w K mg base CX0 5 "rule_of" (sp_rule_of K) [] := ⟨_, fd_rule_of, ["thing"], [], ok_rule_of T F_rule_of c_is_stretch c_made c_Price_fits c_Come_fits c_Go_fits c_Least_fits c_Most_fits c_Deal_fits c_Fee_fits, He.glo_ok X G (c.fact 42 (f := .glo "rule_of") rfl), F_rule_of.kp, F_rule_of.bindsN fun _ _ _ _ _ _ us hl => match us, hl with | [_], _ => rfl, .nil⟩
  have c_Price_word : Y.Met P w K mg base CX0 1 (He.ga K "Price") "word" (sp_Price_word K) [] := ⟨_, fd_Price_word, ["self"], [], He.cls_ok (c.fact 27 (f := .cls "Price") rfl), He.meth_ok (c.fact 43 (f := .meth "Price" "word") rfl), ok_Price_word T F_Price_word , F_Price_word.bindsN fun _ _ _ _ _ _ us hl => match us, hl with | [_], _ => rfl, .nil⟩
  have c_Come_word : Y.Met P w K mg base CX0 1 (He.ga K "Come") "word" (sp_Come_word K) [] := ⟨_, fd_Come_word, ["self"], [], He.cls_ok (c.fact 29 (f := .cls "Come") rfl), He.meth_ok (c.fact 44 (f := .meth "Come" "word") rfl), ok_Come_word T F_Come_word , F_Come_word.bindsN fun _ _ _ _ _ _ us hl => match us, hl with | [_], _ => rfl, .nil⟩
  have c_Go_word : Y.Met P w K mg base CX0 1 (He.ga K "Go") "word" (sp_Go_word K) [] := ⟨_, fd_Go_word, ["self"], [], He.cls_ok (c.fact 31 (f := .cls "Go") rfl), He.meth_ok (c.fact 45 (f := .meth "Go" "word") rfl), ok_Go_word T F_Go_word , F_Go_word.bindsN fun _ _ _ _ _ _ us hl => match us, hl with | [_], _ => rfl, .nil⟩
  have c_Least_word : Y.Met P w K mg base CX0 1 (He.ga K "Least") "word" (sp_Least_word K) [] := ⟨_, fd_Least_word, ["self"], [], He.cls_ok (c.fact 34 (f := .cls "Least") rfl), He.meth_ok (c.fact 46 (f := .meth "Least" "word") rfl), ok_Least_word T F_Least_word , F_Least_word.bindsN fun _ _ _ _ _ _ us hl => match us, hl with | [_], _ => rfl, .nil⟩
  have c_Most_word : Y.Met P w K mg base CX0 1 (He.ga K "Most") "word" (sp_Most_word K) [] := ⟨_, fd_Most_word, ["self"], [], He.cls_ok (c.fact 36 (f := .cls "Most") rfl), He.meth_ok (c.fact 47 (f := .meth "Most" "word") rfl), ok_Most_word T F_Most_word , F_Most_word.bindsN fun _ _ _ _ _ _ us hl => match us, hl with | [_], _ => rfl, .nil⟩
  have c_Deal_word : Y.Met P w K mg base CX0 1 (He.ga K "Deal") "word" (sp_Deal_word K) [] := ⟨_, fd_Deal_word, ["self"], [], He.cls_ok (c.fact 38 (f := .cls "Deal") rfl), He.meth_ok (c.fact 48 (f := .meth "Deal" "word") rfl), ok_Deal_word T F_Deal_word , F_Deal_word.bindsN fun _ _ _ _ _ _ us hl => match us, hl with | [_], _ => rfl, .nil⟩
  have c_Fee_word : Y.Met P w K mg base CX0 1 (He.ga K "Fee") "word" (sp_Fee_word K) [] := ⟨_, fd_Fee_word, ["self"], [], He.cls_ok (c.fact 40 (f := .cls "Fee") rfl), He.meth_ok (c.fact 49 (f := .meth "Fee" "word") rfl), ok_Fee_word T F_Fee_word , F_Fee_word.bindsN fun _ _ _ _ _ _ us hl => match us, hl with | [_], _ => rfl, .nil⟩
  obtain ⟨ds_c_Book, vs_c_Book, bs_c_Book⟩ := FunD.binds1 (ps := ["self", "rules"]) F_Book_init 2 1 (List.cons_ne_nil _ _) rfl fun _ _ _ _ _ _ _ us its hu hi => match us, its, hu, hi with | [_, _], [_], _, _ => ⟨_, rfl, rfl⟩
  have c_Book : Y.Mak P w K mg base CX0 6 "Book" (He.ga K "Book") (sp_Book_init K) [] := ⟨_, fd_Book_init, ["self", "rules"], ds_c_Book, He.mkr_ok (c.fact 50 (f := .mkr "Book") rfl), ok_Book_init T F_Book_init c_rule_of c_Price_word c_Come_word c_Go_word c_Least_word c_Most_word c_Deal_word c_Fee_word, He.glo_ok X G (c.fact 99 (f := .glo "Book") rfl), bs_c_Book, vs_c_Book⟩
  have c_Price_told : Y.Met P w K mg base CX0 2 (He.ga K "Price") "told" (sp_Rule_told K) [] := ⟨_, fd_Price_told, ["self"], [], He.cls_ok (c.fact 27 (f := .cls "Price") rfl), He.meth_ok (c.fact 51 (f := .meth "Price" "told") rfl), ok_Rule_told T F_Price_told c_Price_word c_Come_word c_Go_word c_Least_word c_Most_word c_Deal_word c_Fee_word, F_Price_told.bindsN fun _ _ _ _ _ _ us hl => match us, hl with | [_], _ => rfl, .nil⟩
  have c_Come_told : Y.Met P w K mg base CX0 2 (He.ga K "Come") "told" (sp_Rule_told K) [] := ⟨_, fd_Come_told, ["self"], [], He.cls_ok (c.fact 29 (f := .cls "Come") rfl), He.meth_ok (c.fact 52 (f := .meth "Come" "told") rfl), ok_Rule_told T F_Come_told c_Price_word c_Come_word c_Go_word c_Least_word c_Most_word c_Deal_word c_Fee_word, F_Come_told.bindsN fun _ _ _ _ _ _ us hl => match us, hl with | [_], _ => rfl, .nil⟩
  have c_Go_told : Y.Met P w K mg base CX0 2 (He.ga K "Go") "told" (sp_Rule_told K) [] := ⟨_, fd_Go_told, ["self"], [], He.cls_ok (c.fact 31 (f := .cls "Go") rfl), He.meth_ok (c.fact 53 (f := .meth "Go" "told") rfl), ok_Rule_told T F_Go_told c_Price_word c_Come_word c_Go_word c_Least_word c_Most_word c_Deal_word c_Fee_word, F_Go_told.bindsN fun _ _ _ _ _ _ us hl => match us, hl with | [_], _ => rfl, .nil⟩
  have c_Least_told : Y.Met P w K mg base CX0 2 (He.ga K "Least") "told" (sp_Rule_told K) [] := ⟨_, fd_Least_told, ["self"], [], He.cls_ok (c.fact 34 (f := .cls "Least") rfl), He.meth_ok (c.fact 54 (f := .meth "Least" "told") rfl), ok_Rule_told T F_Least_told c_Price_word c_Come_word c_Go_word c_Least_word c_Most_word c_Deal_word c_Fee_word, F_Least_told.bindsN fun _ _ _ _ _ _ us hl => match us, hl with | [_], _ => rfl, .nil⟩
  have c_Most_told : Y.Met P w K mg base CX0 2 (He.ga K "Most") "told" (sp_Rule_told K) [] := ⟨_, fd_Most_told, ["self"], [], He.cls_ok (c.fact 36 (f := .cls "Most") rfl), He.meth_ok (c.fact 55 (f := .meth "Most" "told") rfl), ok_Rule_told T F_Most_told c_Price_word c_Come_word c_Go_word c_Least_word c_Most_word c_Deal_word c_Fee_word, F_Most_told.bindsN fun _ _ _ _ _ _ us hl => match us, hl with | [_], _ => rfl, .nil⟩
  have c_Deal_told : Y.Met P w K mg base CX0 2 (He.ga K "Deal") "told" (sp_Rule_told K) [] := ⟨_, fd_Deal_told, ["self"], [], He.cls_ok (c.fact 38 (f := .cls "Deal") rfl), He.meth_ok (c.fact 56 (f := .meth "Deal" "told") rfl), ok_Rule_told T F_Deal_told c_Price_word c_Come_word c_Go_word c_Least_word c_Most_word c_Deal_word c_Fee_word, F_Deal_told.bindsN fun _ _ _ _ _ _ us hl => match us, hl with | [_], _ => rfl, .nil⟩
  have c_Fee_told : Y.Met P w K mg base CX0 2 (He.ga K "Fee") "told" (sp_Rule_told K) [] := ⟨_, fd_Fee_told, ["self"], [], He.cls_ok (c.fact 40 (f := .cls "Fee") rfl), He.meth_ok (c.fact 57 (f := .meth "Fee" "told") rfl), ok_Rule_told T F_Fee_told c_Price_word c_Come_word c_Go_word c_Least_word c_Most_word c_Deal_word c_Fee_word, F_Fee_told.bindsN fun _ _ _ _ _ _ us hl => match us, hl with | [_], _ => rfl, .nil⟩
  have c_Book_rules : Y.Met P w K mg base CX0 3 (He.ga K "Book") "rules" (sp_Book_rules K) [] := ⟨_, fd_Book_rules, ["self"], [], He.cls_ok (c.fact 58 (f := .cls "Book") rfl), He.meth_ok (c.fact 59 (f := .meth "Book" "rules") rfl), ok_Book_rules T F_Book_rules c_Price_told c_Come_told c_Go_told c_Least_told c_Most_told c_Deal_told c_Fee_told, F_Book_rules.bindsN fun _ _ _ _ _ _ us hl => match us, hl with | [_], _ => rfl, .nil⟩
  have c_backs_of : Y.Cal P w K mg base CX0 1 "backs_of" (sp_backs_of K) [] := ⟨_, fd_backs_of, ["word", "nights"], [], ok_backs_of T F_backs_of , He.glo_ok X G (c.fact 60 (f := .glo "backs_of") rfl), F_backs_of.kp, F_backs_of.bindsN fun _ _ _ _ _ _ us hl => match us, hl with | [_, _], _ => rfl, .nil⟩
  have c_comes_of : Y.Cal P w K mg base CX0 4 "comes_of" (sp_comes_of K) [] := ⟨_, fd_comes_of, ["books", "nights"], [], ok_comes_of T F_comes_of c_Book_rules c_backs_of, He.glo_ok X G (c.fact 61 (f := .glo "comes_of") rfl), F_comes_of.kp, F_comes_of.bindsN fun _ _ _ _ _ _ us hl => match us, hl with | [_, _], _ => rfl, .nil⟩
  have c_Price_tells : Y.Met P w K mg base CX0 1 (He.ga K "Price") "tells" (sp_Rule_tells K) [] := ⟨_, fd_Price_tells, ["self", "day"], [], He.cls_ok (c.fact 27 (f := .cls "Price") rfl), He.meth_ok (c.fact 62 (f := .meth "Price" "tells") rfl), ok_Rule_tells T F_Price_tells , F_Price_tells.bindsN fun _ _ _ _ _ _ us hl => match us, hl with | [_, _], _ => rfl, .nil⟩
  have c_Come_tells : Y.Met P w K mg base CX0 1 (He.ga K "Come") "tells" (sp_Rule_tells K) [] := ⟨_, fd_Come_tells, ["self", "day"], [], He.cls_ok (c.fact 29 (f := .cls "Come") rfl), He.meth_ok (c.fact 63 (f := .meth "Come" "tells") rfl), ok_Rule_tells T F_Come_tells , F_Come_tells.bindsN fun _ _ _ _ _ _ us hl => match us, hl with | [_, _], _ => rfl, .nil⟩
  have c_Go_tells : Y.Met P w K mg base CX0 1 (He.ga K "Go") "tells" (sp_Rule_tells K) [] := ⟨_, fd_Go_tells, ["self", "day"], [], He.cls_ok (c.fact 31 (f := .cls "Go") rfl), He.meth_ok (c.fact 64 (f := .meth "Go" "tells") rfl), ok_Rule_tells T F_Go_tells , F_Go_tells.bindsN fun _ _ _ _ _ _ us hl => match us, hl with | [_, _], _ => rfl, .nil⟩
  have c_Least_tells : Y.Met P w K mg base CX0 1 (He.ga K "Least") "tells" (sp_Rule_tells K) [] := ⟨_, fd_Least_tells, ["self", "day"], [], He.cls_ok (c.fact 34 (f := .cls "Least") rfl), He.meth_ok (c.fact 65 (f := .meth "Least" "tells") rfl), ok_Rule_tells T F_Least_tells , F_Least_tells.bindsN fun _ _ _ _ _ _ us hl => match us, hl with | [_, _], _ => rfl, .nil⟩
  have c_Most_tells : Y.Met P w K mg base CX0 1 (He.ga K "Most") "tells" (sp_Rule_tells K) [] := ⟨_, fd_Most_tells, ["self", "day"], [], He.cls_ok (c.fact 36 (f := .cls "Most") rfl), He.meth_ok (c.fact 66 (f := .meth "Most" "tells") rfl), ok_Rule_tells T F_Most_tells , F_Most_tells.bindsN fun _ _ _ _ _ _ us hl => match us, hl with | [_, _], _ => rfl, .nil⟩
  have c_Deal_tells : Y.Met P w K mg base CX0 1 (He.ga K "Deal") "tells" (sp_Rule_tells K) [] := ⟨_, fd_Deal_tells, ["self", "day"], [], He.cls_ok (c.fact 38 (f := .cls "Deal") rfl), He.meth_ok (c.fact 67 (f := .meth "Deal" "tells") rfl), ok_Rule_tells T F_Deal_tells , F_Deal_tells.bindsN fun _ _ _ _ _ _ us hl => match us, hl with | [_, _], _ => rfl, .nil⟩
  have c_Fee_tells : Y.Met P w K mg base CX0 1 (He.ga K "Fee") "tells" (sp_Rule_tells K) [] := ⟨_, fd_Fee_tells, ["self", "day"], [], He.cls_ok (c.fact 40 (f := .cls "Fee") rfl), He.meth_ok (c.fact 68 (f := .meth "Fee" "tells") rfl), ok_Rule_tells T F_Fee_tells , F_Fee_tells.bindsN fun _ _ _ _ _ _ us hl => match us, hl with | [_, _], _ => rfl, .nil⟩
  have c_usual : Y.Cal P w K mg base CX0 1 "usual" (sp_usual K) [] := ⟨_, fd_usual, ["word"], [], ok_usual T F_usual , He.glo_ok X G (c.fact 69 (f := .glo "usual") rfl), F_usual.kp, F_usual.bindsN fun _ _ _ _ _ _ us hl => match us, hl with | [_], _ => rfl, .nil⟩
  have c_Book_tells_of : Y.Met P w K mg base CX0 2 (He.ga K "Book") "tells_of" (sp_Book_tells_of K) [] := ⟨_, fd_Book_tells_of, ["self", "word", "day"], [], He.cls_ok (c.fact 58 (f := .cls "Book") rfl), He.meth_ok (c.fact 70 (f := .meth "Book" "tells_of") rfl), ok_Book_tells_of T F_Book_tells_of c_Price_tells c_Come_tells c_Go_tells c_Least_tells c_Most_tells c_Deal_tells c_Fee_tells c_usual, F_Book_tells_of.bindsN fun _ _ _ _ _ _ us hl => match us, hl with | [_, _, _], _ => rfl, .nil⟩
  have c_nights_of : Y.Cal P w K mg base CX0 1 "nights_of" (sp_nights_of K) [] := ⟨_, fd_nights_of, ["stay"], [], ok_nights_of T F_nights_of , He.glo_ok X G (c.fact 71 (f := .glo "nights_of") rfl), F_nights_of.kp, F_nights_of.bindsN fun _ _ _ _ _ _ us hl => match us, hl with | [_], _ => rfl, .nil⟩
  have c_can_be_had : Y.Cal P w K mg base CX0 3 "can_be_had" (sp_can_be_had K) [] := ⟨_, fd_can_be_had, ["book", "stay"], [], ok_can_be_had T F_can_be_had c_Book_tells_of c_nights_of, He.glo_ok X G (c.fact 72 (f := .glo "can_be_had") rfl), F_can_be_had.kp, F_can_be_had.bindsN fun _ _ _ _ _ _ us hl => match us, hl with | [_, _], _ => rfl, .nil⟩
  have c_marked : Y.Cal P w K mg base CX0 1 "marked" (sp_marked K) [] := ⟨_, fd_marked, ["prices", "deal"], [], ok_marked T F_marked , He.glo_ok X G (c.fact 73 (f := .glo "marked") rfl), F_marked.kp, F_marked.bindsN fun _ _ _ _ _ _ us hl => match us, hl with | [_, _], _ => rfl, .nil⟩
  have c_bill : Y.Cal P w K mg base CX0 3 "bill" (sp_bill K) [] := ⟨_, fd_bill, ["book", "stay"], [], ok_bill T F_bill c_nights_of c_Book_tells_of c_marked, He.glo_ok X G (c.fact 74 (f := .glo "bill") rfl), F_bill.kp, F_bill.bindsN fun _ _ _ _ _ _ us hl => match us, hl with | [_, _], _ => rfl, .nil⟩
  have c_coins_of : Y.Cal P w K mg base CX0 4 "coins_of" (sp_coins_of K) [] := ⟨_, fd_coins_of, ["book", "stay"], [], ok_coins_of T F_coins_of c_can_be_had c_bill, He.glo_ok X G (c.fact 75 (f := .glo "coins_of") rfl), F_coins_of.kp, F_coins_of.bindsN fun _ _ _ _ _ _ us hl => match us, hl with | [_, _], _ => rfl, .nil⟩
  have c_apart : Y.Cal P w K mg base CX0 5 "apart" (sp_apart K) [] := ⟨_, fd_apart, ["one", "other"], [], ok_apart T F_apart c_Book_rules c_comes_of c_coins_of, He.glo_ok X G (c.fact 76 (f := .glo "apart") rfl), F_apart.kp, F_apart.bindsN fun _ _ _ _ _ _ us hl => match us, hl with | [_, _], _ => rfl, .nil⟩
  have c_Lwhole : Y.Cal P w K mg base CX0 1 "_law_whole" (sp_Lwhole K) [] := ⟨_, fd_Lwhole, ["_law_found"], [], ok_Lwhole T F_Lwhole , He.glo_ok X G (c.fact 77 (f := .glo "_law_whole") rfl), F_Lwhole.kp, F_Lwhole.bindsN fun _ _ _ _ _ _ us hl => match us, hl with | [_], _ => rfl, .nil⟩
  exact ok_law T F_law c_Lbegin c_Lday c_Ltwo c_Ldue c_Book c_apart c_Lwhole c_Book_rules
end Y
theorem PySem.Challenge.cw_stayprice_k67_unlike_stays_told_holds : PySem.Challenge.rw_stayprice_k67_unlike_stays_told.Holds :=
  Y.early Y.sp_law (fun K m0 H a ns hl _ hS => by
    obtain ⟨m1, x0⟩ := Bool.and_eq_true_iff.mp m0
    exact ⟨_, rfl, m1, x0, a, ns, rfl, hS, hl, fun _ => rfl⟩) Y.facts
