import PyProof.Rows.All
import Wide.All
import OpenK.AllK
import Wide.FinOn
import HandS.Head0
import HandS.Head1
import HandS.Head2
import HandS.HeadEnd
import HandS.HeadHook1
import HandS.HeadHook2
import HandS.HeadHook3
import HandS.HeadHook4
import HandS.ExcInit
import KE.KTryMore
import OpenK.KCls
import HandS.Words
import KE.KStateDown
import HandS.ForMost
import HandS.ForExc
import HandS.Wide
import HandS.Conv
import HandS.IsInst
import HandS.Defaults
import HandS.Codes
import HandS.Flow
import PyProof.ReprRoads
import PyProof.EqLayable
import HandS.SortRule
import HandS.Walk
import HandS.SetFor
import HandS.SetKeys
import HandS.Dict
import HandS.Text
import HandS.FStr
import PyProof.StrBlock2
import PyProof.Rows.StrMul
import HandS.ExcOwn
import HandS.TryOnly
import HandS.WordsExc
import KE.KExcIs
import KE.KIsAll
import HandS.More
import PySem.Challenge.RW_stayprice_k22_texts_of_no_rule
set_option Elab.async false
set_option linter.all false
set_option maxRecDepth 100000
set_option maxHeartbeats 4000000
/-! YH: what is told of the classes at the head. -/
namespace Y
open PySem PySem.Spec PyProof.Rows L2
def ruleCls : List Str := ["Price", "Come", "Go", "Least", "Most", "Deal", "Fee"]
def wordsL : List Str := ["price", "come", "go", "least", "most", "deal", "fee"]
def isiB (K : PySem.W.Frag) (x y : Str) (b : Bool) : Bool := decide (PySem.W.kitOne K (.ref (He.ga K x)) (.ref (He.ga K y)) = some b)
def tyB (K : PySem.W.Frag) (C : Addr) : Bool := He.eqO (PySem.W.findIn K (.ref C) "__class__") (some (some (.builtin "object.__class__"))) && (He.eqO (PySem.W.specialIn K (.builtin "object.__class__") "__get__") (some (some (.builtin "getset_descriptor.__get__"))) && (decide (PySem.W.takesIn K (.builtin "object.__class__") = some true) && decide (PySem.W.mroIn K C (.type "object") = some true)))
/-- what the rules' classes are, told of K -/
def exRules (K : PySem.W.Frag) : Bool := (ruleCls.all fun x => (He.Fa.cls x).ok K && ((["first", "last", "worth"] : List Str).all (fun f => (He.Fa.noat x f).ok K) && (tyB K (He.ga K x) && isiB K x "Rule" true))) &&
  ((ruleCls.all fun x => ruleCls.all fun y => isiB K x y (decide (x = y))) && He.tupB K "WORDS" (wordsL.map He.Dv.str))
def exBook (K : PySem.W.Frag) : Bool := (He.Fa.cls "Book").ok K && ((["kept", "newest"] : List Str).all (fun f => (He.Fa.noat "Book" f).ok K) && (tyB K (He.ga K "Book") && isiB K "Book" "Book" true))
/-! errors -/
/-- the class x stands under y -/
def subE (x y : Str) : Bool := decide (x = y) || decide (y = "StayError")
/-- what is told of any error's class -/
def errB (K : PySem.W.Frag) (x : Str) : Bool := decide (PySem.W.findIn K (.ref (He.ga K x)) "__getattribute__" = some (some (.builtin "BaseException.__getattribute__"))) && (decide (PySem.W.findIn K (.ref (He.ga K x)) "__getattr__" = some none) &&
  (decide (PySem.W.subIn K (.ref (He.ga K x)) (.type "BaseException") = some true) && (PySem.W.hasDictIn K (He.ga K x) && (tyB K (He.ga K x) && (decide (PySem.W.typeIn K (.ref (He.ga K x)) = some (.type "type")) && (PySem.W.keepIn K (.ref (He.ga K x)) && PySem.W.isClsIn K (He.ga K x)))))))
/-- the errors L, and StayError: which stands under which -/
def exErrs (L : List Str) (K : PySem.W.Frag) : Bool := L.all fun x => errB K x && (decide (PySem.W.kitOne K (.ref (He.ga K x)) (.type "ValueError") = some true) &&
  ((("StayError" : Str) :: L).all fun y => (He.Fa.exm x y (subE x y)).ok K && isiB K x y (subE x y)))
/-- an error's class without own __init__ -/
def exBare (x : Str) (K : PySem.W.Frag) : Bool := PySem.W.excIn K (He.ga K x) He.veBase "ValueError.__new__" && errB K x
def oexB (K : PySem.W.Frag) (C : Addr) : Bool := match K.lookup C with
  | some ⟨.type "type", _, .cls cd, sl⟩ => (match cd.mro, sl.toList with
    | .ref C' :: bm, [_, _, _, _, some (.builtin n), _] => C' == C && (n == "ValueError.__new__" && (!cd.hasDel && (cd.hasDict && PySem.HandSPX.refsVE bm)))
    | _, _ => false)
  | _ => false
/-- StayError.__init__ is ValueError's -/
def exStay (K : PySem.W.Frag) : Bool := PySem.W.readsIn K (He.ga K "StayError") (.type "type") && (decide (PySem.W.specialIn K (.ref (He.ga K "StayError")) "__getattribute__" = some (some (.builtin "type.__getattribute__"))) &&
  (match PySem.W.findCls K (.ref (He.ga K "StayError")) (.type "type") "__init__" with
  | some (.val (.builtin n)) => decide (n = "ValueError.__init__")
  | _ => false))
/-- an error's class whose __init__ calls StayError's and writes the field f -/
def exInit (x f : Str) (K : PySem.W.Frag) : Bool := exStay K && (oexB K (He.ga K x) && (decide (PySem.W.findIn K (.ref (He.ga K x)) "__setattr__" = some (some (.builtin "object.__setattr__"))) && (decide (PySem.W.findIn K (.ref (He.ga K x)) f = some none) && errB K x)))
def exHind (K : PySem.W.Frag) : Bool := He.tupB K "HINDERING" (((["price", "come", "go", "least", "most"] : List Str)).map He.Dv.str)
/-! the head's hook: what the names reach, and the table of statics (a class's attributes are looked up there) -/
abbrev AlY : Type := He.AlD × Bool
def asY (g : Addr → Option Obj) (n : Nat) : List Addr := He.asD g n ++ [cStatics]
def obsY (n : Nat) (fa : List He.Fa) (fn : List He.DefD) (ex : PySem.W.Frag → Bool) (g : Addr → Option Obj) : AlY := (He.obsD fa fn (He.frG g (asY g n)), ex (He.frG g (asY g n)))
def hookY (n : Nat) (fa : List He.Fa) (fn : List He.DefD) (ex : PySem.W.Frag → Bool) : PySem.W.Hook where
  α := AlY
  obs := fun s => obsY n fa fn ex s.heap.get?
  val := fun _ => (He.valD fn, true)
  says := fun _ h => ∃ K : PySem.W.Frag, K.In h ∧ He.SaysD fa fn K ∧ ex K = true
  of := fun _ _ e => ⟨_, He.frG_in, congrArg (fun z : AlY => z.1) e, congrArg (fun z : AlY => z.2) e⟩
  keeps := fun _ _ _ ⟨K, hK, c⟩ k => ⟨K, PySem.W.Frag.In.keeps hK k, c⟩
theorem obsY_eq {n : Nat} {fa : List He.Fa} {fn : List He.DefD} {ex : PySem.W.Frag → Bool} {g : Addr → Option Obj} {s : Shared} (h : ∀ a, g a = s.heap.get? a) : obsY n fa fn ex g = (hookY n fa fn ex).obs s := by
  have e : g = s.heap.get? := funext h
  rw [e] <;> rfl
end Y
namespace YHd
open PySem PySem.Spec PyProof.Rows L2 Y
def top (i : Nat) : Stmt := PySem.Challenge.pw_stayprice_k22_texts_of_no_rule.main.body.getD i (.Pass ⟨0, 0, 0, 0⟩)
abbrev s_Lbegin : Stmt := top 31
abbrev s_worth_text : Stmt := top 24
abbrev s_rule_text : Stmt := top 25
abbrev s_Ltake : Stmt := top 32
abbrev s_Lcoins : Stmt := top 33
abbrev s_Lworth : Stmt := top 34
abbrev s_Lrule : Stmt := top 35
abbrev s_Lodd : Stmt := top 40
abbrev s_Lbent : Stmt := top 41
abbrev s_Lnumber : Stmt := top 36
abbrev s_Lpair : Stmt := top 37
abbrev s_Lworth_by : Stmt := top 38
abbrev s_Ldue : Stmt := top 39
abbrev s_number_by : Stmt := top 26
abbrev s_worths_by : Stmt := top 27
abbrev s_is_whole : Stmt := top 3
abbrev s_is_day : Stmt := top 4
abbrev s_is_two_days : Stmt := top 5
abbrev s_is_stretch : Stmt := top 6
abbrev s_Rule_init : Stmt := inClass (top 12) 0
abbrev s_made : Stmt := top 20
abbrev s_is_coins : Stmt := top 10
abbrev s_Price_fits : Stmt := inClass (top 13) 1
abbrev s_Come_fits : Stmt := inClass (top 14) 1
abbrev s_Go_fits : Stmt := inClass (top 15) 1
abbrev s_is_nights : Stmt := top 11
abbrev s_Least_fits : Stmt := inClass (top 16) 1
abbrev s_Most_fits : Stmt := inClass (top 17) 1
abbrev s_Deal_fits : Stmt := inClass (top 18) 1
abbrev s_Fee_fits : Stmt := inClass (top 19) 1
abbrev s_rule_of : Stmt := top 21
abbrev s_Price_word : Stmt := inClass (top 13) 0
abbrev s_Come_word : Stmt := inClass (top 14) 0
abbrev s_Go_word : Stmt := inClass (top 15) 0
abbrev s_Least_word : Stmt := inClass (top 16) 0
abbrev s_Most_word : Stmt := inClass (top 17) 0
abbrev s_Deal_word : Stmt := inClass (top 18) 0
abbrev s_Fee_word : Stmt := inClass (top 19) 0
abbrev s_Rule_told : Stmt := inClass (top 12) 4
abbrev s_rule_by : Stmt := top 28
abbrev s_Lright : Stmt := top 42
abbrev s_law : Stmt := top 43
/-! the head: facts by names, the run of the top -/
def d_Lbegin : He.DefD := ⟨("_law_begin", none), "_law_begin", "_law_begin", defArgs s_Lbegin, defBody s_Lbegin, defScope s_Lbegin, [], []⟩
def d_worth_text : He.DefD := ⟨("worth_text", none), "worth_text", "worth_text", defArgs s_worth_text, defBody s_worth_text, defScope s_worth_text, [], []⟩
def d_rule_text : He.DefD := ⟨("rule_text", none), "rule_text", "rule_text", defArgs s_rule_text, defBody s_rule_text, defScope s_rule_text, [], []⟩
def d_Ltake : He.DefD := ⟨("_law_take", none), "_law_take", "_law_take", defArgs s_Ltake, defBody s_Ltake, defScope s_Ltake, [], []⟩
def d_Lcoins : He.DefD := ⟨("_law_coins", none), "_law_coins", "_law_coins", defArgs s_Lcoins, defBody s_Lcoins, defScope s_Lcoins, [], []⟩
def d_Lworth : He.DefD := ⟨("_law_worth", none), "_law_worth", "_law_worth", defArgs s_Lworth, defBody s_Lworth, defScope s_Lworth, [], []⟩
def d_Lrule : He.DefD := ⟨("_law_rule", none), "_law_rule", "_law_rule", defArgs s_Lrule, defBody s_Lrule, defScope s_Lrule, [], []⟩
def d_Lodd : He.DefD := ⟨("_law_odd", none), "_law_odd", "_law_odd", defArgs s_Lodd, defBody s_Lodd, defScope s_Lodd, [], []⟩
def d_Lbent : He.DefD := ⟨("_law_bent", none), "_law_bent", "_law_bent", defArgs s_Lbent, defBody s_Lbent, defScope s_Lbent, [], []⟩
def d_Lnumber : He.DefD := ⟨("_law_number", none), "_law_number", "_law_number", defArgs s_Lnumber, defBody s_Lnumber, defScope s_Lnumber, [], []⟩
def d_Lpair : He.DefD := ⟨("_law_pair", none), "_law_pair", "_law_pair", defArgs s_Lpair, defBody s_Lpair, defScope s_Lpair, [], []⟩
def d_Lworth_by : He.DefD := ⟨("_law_worth_by", none), "_law_worth_by", "_law_worth_by", defArgs s_Lworth_by, defBody s_Lworth_by, defScope s_Lworth_by, [], []⟩
def d_Ldue : He.DefD := ⟨("_law_due", none), "_law_due", "_law_due", defArgs s_Ldue, defBody s_Ldue, defScope s_Ldue, [], []⟩
def d_number_by : He.DefD := ⟨("number_by", none), "number_by", "number_by", defArgs s_number_by, defBody s_number_by, defScope s_number_by, [], []⟩
def d_worths_by : He.DefD := ⟨("worths_by", none), "worths_by", "worths_by", defArgs s_worths_by, defBody s_worths_by, defScope s_worths_by, [], []⟩
def d_is_whole : He.DefD := ⟨("is_whole", none), "is_whole", "is_whole", defArgs s_is_whole, defBody s_is_whole, defScope s_is_whole, [], []⟩
def d_is_day : He.DefD := ⟨("is_day", none), "is_day", "is_day", defArgs s_is_day, defBody s_is_day, defScope s_is_day, [], []⟩
def d_is_two_days : He.DefD := ⟨("is_two_days", none), "is_two_days", "is_two_days", defArgs s_is_two_days, defBody s_is_two_days, defScope s_is_two_days, [], []⟩
def d_is_stretch : He.DefD := ⟨("is_stretch", none), "is_stretch", "is_stretch", defArgs s_is_stretch, defBody s_is_stretch, defScope s_is_stretch, [], []⟩
def d_Price_init : He.DefD := ⟨("Price", some "__init__"), "__init__", "Rule.__init__", defArgs s_Rule_init, defBody s_Rule_init, defScope s_Rule_init, [], []⟩
def d_Come_init : He.DefD := ⟨("Come", some "__init__"), "__init__", "Rule.__init__", defArgs s_Rule_init, defBody s_Rule_init, defScope s_Rule_init, [], []⟩
def d_Go_init : He.DefD := ⟨("Go", some "__init__"), "__init__", "Rule.__init__", defArgs s_Rule_init, defBody s_Rule_init, defScope s_Rule_init, [], []⟩
def d_Least_init : He.DefD := ⟨("Least", some "__init__"), "__init__", "Rule.__init__", defArgs s_Rule_init, defBody s_Rule_init, defScope s_Rule_init, [], []⟩
def d_Most_init : He.DefD := ⟨("Most", some "__init__"), "__init__", "Rule.__init__", defArgs s_Rule_init, defBody s_Rule_init, defScope s_Rule_init, [], []⟩
def d_Deal_init : He.DefD := ⟨("Deal", some "__init__"), "__init__", "Rule.__init__", defArgs s_Rule_init, defBody s_Rule_init, defScope s_Rule_init, [], []⟩
def d_Fee_init : He.DefD := ⟨("Fee", some "__init__"), "__init__", "Rule.__init__", defArgs s_Rule_init, defBody s_Rule_init, defScope s_Rule_init, [], []⟩
def d_made : He.DefD := ⟨("made", none), "made", "made", defArgs s_made, defBody s_made, defScope s_made, [], []⟩
def d_is_coins : He.DefD := ⟨("is_coins", none), "is_coins", "is_coins", defArgs s_is_coins, defBody s_is_coins, defScope s_is_coins, [], []⟩
def d_Price_fits : He.DefD := ⟨("Price", some "fits"), "fits", "Price.fits", defArgs s_Price_fits, defBody s_Price_fits, defScope s_Price_fits, [], []⟩
def d_Come_fits : He.DefD := ⟨("Come", some "fits"), "fits", "Come.fits", defArgs s_Come_fits, defBody s_Come_fits, defScope s_Come_fits, [], []⟩
def d_Go_fits : He.DefD := ⟨("Go", some "fits"), "fits", "Go.fits", defArgs s_Go_fits, defBody s_Go_fits, defScope s_Go_fits, [], []⟩
def d_is_nights : He.DefD := ⟨("is_nights", none), "is_nights", "is_nights", defArgs s_is_nights, defBody s_is_nights, defScope s_is_nights, [], []⟩
def d_Least_fits : He.DefD := ⟨("Least", some "fits"), "fits", "Least.fits", defArgs s_Least_fits, defBody s_Least_fits, defScope s_Least_fits, [], []⟩
def d_Most_fits : He.DefD := ⟨("Most", some "fits"), "fits", "Most.fits", defArgs s_Most_fits, defBody s_Most_fits, defScope s_Most_fits, [], []⟩
def d_Deal_fits : He.DefD := ⟨("Deal", some "fits"), "fits", "Deal.fits", defArgs s_Deal_fits, defBody s_Deal_fits, defScope s_Deal_fits, [], []⟩
def d_Fee_fits : He.DefD := ⟨("Fee", some "fits"), "fits", "Fee.fits", defArgs s_Fee_fits, defBody s_Fee_fits, defScope s_Fee_fits, [], []⟩
def d_rule_of : He.DefD := ⟨("rule_of", none), "rule_of", "rule_of", defArgs s_rule_of, defBody s_rule_of, defScope s_rule_of, [], []⟩
def d_Price_word : He.DefD := ⟨("Price", some "word"), "word", "Price.word", defArgs s_Price_word, defBody s_Price_word, defScope s_Price_word, [], []⟩
def d_Come_word : He.DefD := ⟨("Come", some "word"), "word", "Come.word", defArgs s_Come_word, defBody s_Come_word, defScope s_Come_word, [], []⟩
def d_Go_word : He.DefD := ⟨("Go", some "word"), "word", "Go.word", defArgs s_Go_word, defBody s_Go_word, defScope s_Go_word, [], []⟩
def d_Least_word : He.DefD := ⟨("Least", some "word"), "word", "Least.word", defArgs s_Least_word, defBody s_Least_word, defScope s_Least_word, [], []⟩
def d_Most_word : He.DefD := ⟨("Most", some "word"), "word", "Most.word", defArgs s_Most_word, defBody s_Most_word, defScope s_Most_word, [], []⟩
def d_Deal_word : He.DefD := ⟨("Deal", some "word"), "word", "Deal.word", defArgs s_Deal_word, defBody s_Deal_word, defScope s_Deal_word, [], []⟩
def d_Fee_word : He.DefD := ⟨("Fee", some "word"), "word", "Fee.word", defArgs s_Fee_word, defBody s_Fee_word, defScope s_Fee_word, [], []⟩
def d_Price_told : He.DefD := ⟨("Price", some "told"), "told", "Rule.told", defArgs s_Rule_told, defBody s_Rule_told, defScope s_Rule_told, [], []⟩
def d_Come_told : He.DefD := ⟨("Come", some "told"), "told", "Rule.told", defArgs s_Rule_told, defBody s_Rule_told, defScope s_Rule_told, [], []⟩
def d_Go_told : He.DefD := ⟨("Go", some "told"), "told", "Rule.told", defArgs s_Rule_told, defBody s_Rule_told, defScope s_Rule_told, [], []⟩
def d_Least_told : He.DefD := ⟨("Least", some "told"), "told", "Rule.told", defArgs s_Rule_told, defBody s_Rule_told, defScope s_Rule_told, [], []⟩
def d_Most_told : He.DefD := ⟨("Most", some "told"), "told", "Rule.told", defArgs s_Rule_told, defBody s_Rule_told, defScope s_Rule_told, [], []⟩
def d_Deal_told : He.DefD := ⟨("Deal", some "told"), "told", "Rule.told", defArgs s_Rule_told, defBody s_Rule_told, defScope s_Rule_told, [], []⟩
def d_Fee_told : He.DefD := ⟨("Fee", some "told"), "told", "Rule.told", defArgs s_Rule_told, defBody s_Rule_told, defScope s_Rule_told, [], []⟩
def d_rule_by : He.DefD := ⟨("rule_by", none), "rule_by", "rule_by", defArgs s_rule_by, defBody s_rule_by, defScope s_rule_by, [], []⟩
def d_Lright : He.DefD := ⟨("_law_right", none), "_law_right", "_law_right", defArgs s_Lright, defBody s_Lright, defScope s_Lright, [], []⟩
def d_law : He.DefD := ⟨("law", none), "law", "law", defArgs s_law, defBody s_law, defScope s_law, [], []⟩
def fn : List He.DefD := d_Lbegin :: d_worth_text :: d_rule_text :: d_Ltake :: d_Lcoins :: d_Lworth :: d_Lrule :: d_Lodd :: d_Lbent :: d_Lnumber :: d_Lpair :: d_Lworth_by :: d_Ldue :: d_number_by :: d_worths_by :: d_is_whole :: d_is_day :: d_is_two_days :: d_is_stretch :: d_Price_init :: d_Come_init :: d_Go_init :: d_Least_init :: d_Most_init :: d_Deal_init :: d_Fee_init :: d_made :: d_is_coins :: d_Price_fits :: d_Come_fits :: d_Go_fits :: d_is_nights :: d_Least_fits :: d_Most_fits :: d_Deal_fits :: d_Fee_fits :: d_rule_of :: d_Price_word :: d_Come_word :: d_Go_word :: d_Least_word :: d_Most_word :: d_Deal_word :: d_Fee_word :: d_Price_told :: d_Come_told :: d_Go_told :: d_Least_told :: d_Most_told :: d_Deal_told :: d_Fee_told :: d_rule_by :: d_Lright :: d_law :: []
def fa : List He.Fa := .glo "_law_begin" :: .glo "worth_text" :: .glo "rule_text" :: .glo "_law_take" :: .glo "_law_coins" :: .glo "_law_worth" :: .glo "_law_rule" :: .glo "_law_odd" :: .glo "_law_bent" :: .glo "_law_number" :: .glo "_law_pair" :: .glo "_law_worth_by" :: .glo "_law_due" :: .glo "number_by" :: .glo "worths_by" :: .glo "is_whole" :: .glo "is_day" :: .glo "is_two_days" :: .glo "is_stretch" :: .mkr "Price" :: .mkr "Come" :: .mkr "Go" :: .mkr "Least" :: .mkr "Most" :: .mkr "Deal" :: .mkr "Fee" :: .glo "made" :: .glo "is_coins" :: .cls "Price" :: .meth "Price" "fits" :: .cls "Come" :: .meth "Come" "fits" :: .cls "Go" :: .meth "Go" "fits" :: .glo "is_nights" :: .cls "Least" :: .meth "Least" "fits" :: .cls "Most" :: .meth "Most" "fits" :: .cls "Deal" :: .meth "Deal" "fits" :: .cls "Fee" :: .meth "Fee" "fits" :: .glo "rule_of" :: .meth "Price" "word" :: .meth "Come" "word" :: .meth "Go" "word" :: .meth "Least" "word" :: .meth "Most" "word" :: .meth "Deal" "word" :: .meth "Fee" "word" :: .meth "Price" "told" :: .meth "Come" "told" :: .meth "Go" "told" :: .meth "Least" "told" :: .meth "Most" "told" :: .meth "Deal" "told" :: .meth "Fee" "told" :: .glo "rule_by" :: .glo "_law_right" :: .glo "law" :: .free "all" :: .free "bool" :: .free "int" :: .free "isinstance" :: .free "len" :: .free "max" :: .free "min" :: .free "range" :: .free "str" :: .free "tuple" :: .str "FIGURES" "0123456789" :: .int "LAST_DAY" 1000000 :: .int "MOST_COINS" 1000000000000 :: .int "MOST_NIGHTS" 14 :: .glo "WORDS" :: .glo "Come" :: .glo "Deal" :: .glo "Fee" :: .glo "Go" :: .glo "Least" :: .glo "Most" :: .glo "Price" :: []
def ex (K : PySem.W.Frag) : Bool := exRules K
abbrev AlH := AlY
abbrev R : PySem.W.OpenRow := PySem.W.OpenLaw.row PySem.Challenge.rw_stayprice_k22_texts_of_no_rule
abbrev hk : PySem.W.Hook := hookY 5 fa fn ex
def ob (s : PySem.W.SharedT) : AlH := obsY 5 fa fn ex (HandSHeadRun.getT s)
theorem ob_eq (s : PySem.W.SharedT) : ob s = hk.obs s.abs := obsY_eq (HandSHeadRun.getT_eq s)
def loose : List PySem.Str := "LAST_DAY" :: "MOST_NIGHTS" :: "is_whole" :: "is_day" :: "is_two_days" :: "is_stretch" :: "WORDS" :: "MOST_COINS" :: "is_coins" :: "is_nights" :: "Rule" :: "Price" :: "Come" :: "Go" :: "Least" :: "Most" :: "Deal" :: "Fee" :: "made" :: "rule_of" :: "FIGURES" :: "worth_text" :: "rule_text" :: "number_by" :: "worths_by" :: "rule_by" :: "_law_cell_at" :: "_law_begin" :: "_law_take" :: "_law_coins" :: "_law_worth" :: "_law_rule" :: "_law_number" :: "_law_pair" :: "_law_worth_by" :: "_law_due" :: "_law_odd" :: "_law_bent" :: "_law_right" :: []
theorem run (w : World) : HandSHeadRun.RunEq R (PySem.W.view R.prog [43]) hk ob 6000 loose w := by
  intro os
  kernel_rfl
end YHd
/-! Y0: short names of readings; promises by their number of arguments; heaps that grow; steps of a reading. -/
namespace Y
open PySem PySem.Spec PyProof.Rows L2

/-- nothing stands at p -/
def Fr (H : Hp) (p : Addr) : Prop := H p = none
/-! ### short names for the readings of operators and built-ins -/
abbrev rAdd : R2 := rI0 fun i j => .int (i + j)
abbrev rSub : R2 := rI0 fun i j => .int (i - j)
abbrev rMul : R2 := rI CMul fun i j => .int (i * j)
abbrev rPow : R2 := rI CPow fun i j => .int (i ^ j.toNat)
abbrev rMod : R2 := rI (fun _ j => 0 < j) fun i j => .int (i % j)
abbrev rDivW : R2 := rI CDivW fun i j => .int (i / j)
abbrev rLt : R2 := rI0 fun i j => .bl (decide (i < j))
abbrev rLe : R2 := rI0 fun i j => .bl (decide (i ≤ j))
abbrev rGt : R2 := rI0 fun i j => .bl (decide (j < i))
abbrev rGe : R2 := rI0 fun i j => .bl (decide (j ≤ i))
abbrev rIsN : R2 := fun x y H Q => y = .non ∧ Q (.bl (decide (x = .non))) H
abbrev rNotN : R2 := fun x y H Q => y = .non ∧ Q (.bl (!decide (x = .non))) H
abbrev rAddS : R2 := fun x y H Q => ∃ i j, x = .str i ∧ y = .str j ∧ i.length + j.length ≤ sizeLine ∧ Q (.str (i ++ j)) H
abbrev rNeg : V → Hp → VK → Prop := rU fun i => .int (-i)
abbrev rAbs : List V → Hp → VK → Prop := fun xs H Q => ∃ i, xs = [.int i] ∧ Q (.int (if i < 0 then -i else i)) H
abbrev rMax2 : List V → Hp → VK → Prop := fun xs H Q => ∃ i j, xs = [.int i, .int j] ∧ Q (.int (if j > i then j else i)) H
abbrev rMin2 : List V → Hp → VK → Prop := fun xs H Q => ∃ i j, xs = [.int i, .int j] ∧ Q (.int (if j < i then j else i)) H
abbrev rInt1 : List V → Hp → VK → Prop := fun xs H Q => (∃ i, xs = [.int i] ∧ Q (.int i) H) ∨ ∃ k, xs = [.bl k] ∧ Q (.int (if k then 1 else 0)) H
abbrev rLen (K : PySem.W.Frag) : List V → Hp → VK → Prop := fun xs H Q => ∃ p ys, xs = [.ref p] ∧ (SqL K H p ys ∨ SqT K H p ys) ∧ Q (.int ys.length) H
abbrev rLenS : List V → Hp → VK → Prop := fun xs H Q => ∃ z, xs = [.str z] ∧ z.length ≤ sizeLine ∧ Q (.int z.length) H
abbrev rLenA (K : PySem.W.Frag) : List V → Hp → VK → Prop := fun xs H Q => ∃ x n, xs = [x] ∧ LenV K x H n ∧ Q (.int n) H
abbrev rListOf (K : PySem.W.Frag) : List V → Hp → VK → Prop := fun xs H Q => ∃ p ys, xs = [.ref p] ∧ (SqL K H p ys ∨ SqT K H p ys) ∧ ∀ l, H l = none → Q (.ref l) (upd H l (.lst ys))
abbrev rTupOf (K : PySem.W.Frag) : List V → Hp → VK → Prop := fun xs H Q => ∃ p ys, xs = [.ref p] ∧ ((SqL K H p ys ∧ ∀ l, H l = none → Q (.ref l) (upd H l (.tup ys))) ∨ (SqT K H p ys ∧ Q (.ref p) H))
abbrev rInsert : V → List V → Hp → VK → Prop := fun x vs H Q => ∃ (l : Addr) (xs : List V) (i : Int) (y : V), x = .ref l ∧ vs = [.int i, y] ∧ H l = some (.lst xs) ∧ xs.length < sizeLine ∧ 0 ≤ i ∧ i < 2 ^ 63 ∧ Q .non (upd H l (.lst (xs.take i.toNat ++ [y] ++ xs.drop i.toNat)))
abbrev tTruth (K : PySem.W.Frag) (ta : TE) : TT := fun σ H Q => ta σ H fun x H1 => ∃ k, TruV K x H1 k ∧ Q k H1

/-! ### steps by what the reading is -/
section
variable {K : PySem.W.Frag} {σ : L2.St} {H : Hp} {Q : VK} {x y v : V} {i j : Int} {p : Addr} {xs : List V}
theorem g_c (q : Q v H) : tC v σ H Q := q
theorem g_op {r : R2} {ta tb : TE} (q : ta σ H fun x H1 => tb σ H1 fun y H2 => r x y H2 Q) : tOp r ta tb σ H Q := q
theorem g_un {r : V → Hp → VK → Prop} {ta : TE} (q : ta σ H fun x H1 => r x H1 Q) : tUn r ta σ H Q := q
theorem g_chain {r r' : R2} {ta tb tc : TE} (q : ta σ H fun x H1 => tb σ H1 fun y H2 => r x y H2 fun z H3 => ∃ k, z = .bl k ∧ (if k = true then tc σ H3 fun w' H4 => r' y w' H4 Q else Q (.bl false) H3)) : tChain r r' ta tb tc σ H Q := q
theorem g_tB {t : TE} {Q : Bool → Hp → Prop} (h : t σ H fun x H' => ∃ k, x = .bl k ∧ Q k H') : tB t σ H Q := h
theorem g_and {t u : TT} {Q : Bool → Hp → Prop} (h : t σ H fun c H1 => if c = true then u σ H1 Q else Q false H1) : tAnd t u σ H Q := h
theorem g_or {t u : TT} {Q : Bool → Hp → Prop} (h : t σ H fun c H1 => if c = true then Q true H1 else u σ H1 Q) : tOr t u σ H Q := h
theorem g_not {t : TT} {Q : Bool → Hp → Prop} (h : t σ H fun c H1 => Q (!c) H1) : tNot t σ H Q := h
theorem g_andV {ta tb : TE} (h : ta σ H fun x H1 => ∃ c, x = .bl c ∧ if c = true then tb σ H1 Q else Q (.bl false) H1) : tAndV ta tb σ H Q := h
theorem g_orV {ta tb : TE} (h : ta σ H fun x H1 => ∃ c, x = .bl c ∧ if c = true then Q (.bl true) H1 else tb σ H1 Q) : tOrV ta tb σ H Q := h
theorem g_notV {ta : TE} (h : ta σ H fun x H1 => ∃ c, x = .bl c ∧ Q (.bl (!c)) H1) : tNotV ta σ H Q := h
theorem g_nil {Q : List V → Hp → Prop} (h : Q [] H) : tNil σ H Q := h
theorem g_cons {ta : TE} {tr : TA} {Q : List V → Hp → Prop} (h : ta σ H fun x H1 => tr σ H1 fun xs H2 => Q (x :: xs) H2) : tCons ta tr σ H Q := h
theorem g_tTup {t : TA} (h : t σ H fun xs H1 => xs.length ≤ sizeLine ∧ ∀ p, Fr H1 p → Q (.ref p) (upd H1 p (.tup xs))) : tTup t σ H Q := h
theorem g_tLst {t : TA} (h : t σ H fun xs H1 => xs.length ≤ sizeLine ∧ ∀ p, Fr H1 p → Q (.ref p) (upd H1 p (.lst xs))) : tLst t σ H Q := h
theorem g_cb {r : List V → Hp → VK → Prop} {t : TA} (h : t σ H fun vs H1 => r vs H1 Q) : tCB r t σ H Q := h
theorem g_call {sp : Sp} {dvs : List V} {E : XK} {t : TA} (h : t σ H fun vs H1 => sp (vs ++ dvs) H1 Q E) : tCall sp dvs E t σ H Q := h
theorem g_sl {r : V → Option Int → Option Int → Hp → VK → Prop} {te : TE} {tl th : TO} (h : te σ H fun x H1 => tl σ H1 fun l H2 => th σ H2 fun u H3 => r x l u H3 Q) : tSl r te tl th σ H Q := h
theorem g_wipe {a b : L2.St} {R : Prop} (h : a = b) (r : R) : a = b ∧ R := ⟨h, r⟩
theorem g_np {Q : Option Int → Hp → Prop} (h : Q none H) : tNoPart σ H Q := h
theorem g_pt {t : TE} {Q : Option Int → Hp → Prop} (h : t σ H fun x H1 => ∃ i, x = .int i ∧ Q (some i) H1) : tPart t σ H Q := h
theorem g_exI {R : Int → Prop} (q : R i) : ∃ i', V.int i = .int i' ∧ R i' := ⟨i, rfl, q⟩
theorem g_bm {T : String} {r : V → List V → Hp → VK → Prop} {to : TE} {t : TA} (h : to σ H fun x H1 => tyV K T x H1 ∧ t σ H1 fun xs H2 => r x xs H2 Q) : tBM K T r to t σ H Q := h
theorem g_tyL {R : Prop} (h : SqL K H p xs) (q : R) : tyV K "list" (.ref p) H ∧ R := ⟨.inl ⟨rfl, _, h⟩, q⟩
theorem g_yes {Q : Bool → Hp → Prop} (h : Q true H) : tYes σ H Q := h
theorem g_seq {t u : TS} {D : Ends} (h : t { D with nx := u D } σ H) : tSeq t u D σ H := h
theorem g_asg {te : TE} {g : TG} {D : Ends} (h : te σ H fun x H1 => g x σ H1 D.nx) : tAsg te g D σ H := h
theorem g_name {n : Nat} {Q : L2.St → Hp → Prop} (h : Q (σ.set n (some v)) H) : gName n v σ H Q := h
theorem g_sub {to ti : TE} {t : TSet} {Q : L2.St → Hp → Prop} (h : to σ H fun o H1 => ti σ H1 fun i H2 => t o i v H2 fun H3 => Q σ H3) : gSub to ti t v σ H Q := h
theorem g_gtup {n : Nat} {t : TGs} {Q : L2.St → Hp → Prop} (h : SqT K H p xs) (l : xs.length = n) (q : t xs σ H Q) : gTup K n t (.ref p) σ H Q := ⟨p, xs, rfl, h, l, q⟩
theorem g_gcons {t : TG} {u : TGs} {Q : L2.St → Hp → Prop} (h : t x σ H fun σ' H' => u xs σ' H' Q) : gCons t u (x :: xs) σ H Q := ⟨x, xs, rfl, h⟩
theorem g_gnil {Q : L2.St → Hp → Prop} (h : Q σ H) : gNil [] σ H Q := ⟨rfl, h⟩
theorem g_seqA {te : TE} {g : TG} {u : TS} {D : Ends} (h : tAsg te g { D with nx := u D } σ H) : tSeq (tAsg te g) u D σ H := h
theorem g_seqR {c : TT} {te : TE} {v u : TS} {D : Ends} (h : tIfS c (tRet te) v { D with nx := u D } σ H) : tSeq (tIfS c (tRet te) v) u D σ H := h
theorem g_seqF {wi : TI} {g : TG} {b u : TS} {D : Ends} (h : tFor wi g b { D with nx := u D } σ H) : tSeq (tFor wi g b) u D σ H := h
theorem g_ifS {c : TT} {t u : TS} {D : Ends} (h : c σ H fun b H1 => if b = true then t D σ H1 else u D σ H1) : tIfS c t u D σ H := h
theorem g_ret {te : TE} {D : Ends} (h : te σ H D.rt) : tRet te D σ H := h
theorem g_drop {te : TE} {D : Ends} (h : te σ H fun _ H1 => D.nx σ H1) : tDrop te D σ H := h
theorem g_next {D : Ends} (h : D.nx σ H) : tNext D σ H := h
theorem g_rng1 {ta : TA} {R : It → Hp → Prop} (h : ta σ H fun vs H1 => ∃ j : Int, vs = [.int j] ∧ -(2 ^ 62) ≤ j ∧ j < 2 ^ 62 ∧ R (Itr 0 j.toNat) H1) : iRng1 ta σ H R := h
theorem g_rng1b {R : Int → Prop} (a : -(2 ^ 62) ≤ i) (b : i < 2 ^ 62) (q : R i) : ∃ j : Int, [V.int i] = [.int j] ∧ -(2 ^ 62) ≤ j ∧ j < 2 ^ 62 ∧ R j := ⟨i, rfl, a, b, q⟩
theorem g_iList {tl : TE} {R : It → Hp → Prop} (h : tl σ H fun x H1 => ∃ a, x = .ref a ∧ (∃ xs, SqL K H1 a xs) ∧ R (Itl K a) H1) : iList K tl σ H R := h
theorem g_iListb {R : Addr → Prop} (h : SqL K H p xs) (q : R p) : ∃ a, V.ref p = .ref a ∧ (∃ xs, SqL K H a xs) ∧ R a := ⟨p, rfl, ⟨xs, h⟩, q⟩
theorem g_iTup {tl : TE} {R : It → Hp → Prop} (h : tl σ H fun x H1 => ∃ a, x = .ref a ∧ (∃ xs, SqT K H1 a xs) ∧ R (Itt K a) H1) : iTup K tl σ H R := h
theorem g_iTupb {R : Addr → Prop} (h : SqT K H p xs) (q : R p) : ∃ a, V.ref p = .ref a ∧ (∃ xs, SqT K H a xs) ∧ R a := ⟨p, rfl, ⟨xs, h⟩, q⟩
theorem g_for {wi : TI} {g : TG} {tb : TS} {D : Ends} (h : wi σ H fun J H1 => ∃ W : Nat → Nat → L2.St → Hp → Prop, (∃ m, W 0 m σ H1) ∧ ∀ i m σ H, W i m σ H →
  (J.stop i H ∧ D.nx σ H) ∨ (J.go i H ∧ ∃ N : L2.St → Hp → Prop, (∀ σ' H', N σ' H' → ∃ m', m' < m ∧ W (i + 1) m' σ' H') ∧ ∀ x H', J.yld i H x H' → g x σ H' fun σ2 H2 => tb { D with nx := N, ct := N, bk := D.nx } σ2 H2)) : tFor wi g tb D σ H := h
theorem g_lc {wi : TI} {g : TG} {tt : TT} {te : TE} {vs : List Nat} (h : wi σ H fun J H1 => ∀ D, Fr H1 D → ∃ W : Nat → Nat → Hp → Prop, (∃ m, W 0 m (upd H1 D (.lst []))) ∧ ∀ i m H, W i m H →
  (J.stop i H ∧ Q (.ref D) H) ∨ (J.go i H ∧ ∃ Nx : Hp → Prop, (∀ H', Nx H' → ∃ m', m' < m ∧ W (i + 1) m' H') ∧ ∀ x H', J.yld i H x H' → g x (wipe σ vs) H' fun σ2 H2 => wipe σ2 vs = wipe σ vs ∧ tt σ2 H2 fun b H3 =>
    if b = true then te σ2 H3 fun y H4 => ∃ acc, H4 D = some (.lst acc) ∧ acc.length < sizeLine ∧ Nx (upd H4 D (.lst (acc ++ [y]))) else Nx H3)) : tLc wi g tt te vs σ H Q := h
theorem g_var {n : Nat} (h : σ[n]? = some (some v)) (q : Q v H) : tVar n σ H Q := ⟨v, h, q⟩
theorem g_rI0 {g : Int → Int → V} (q : Q (g i j) H) : rI0 g (.int i) (.int j) H Q := ⟨i, j, rfl, rfl, q⟩
theorem g_rI {C : Int → Int → Prop} {g : Int → Int → V} (c : C i j) (q : Q (g i j) H) : rI C g (.int i) (.int j) H Q := ⟨i, j, rfl, rfl, c, q⟩
theorem g_pow6 (q : Q (.int 1000000) H) : rPow (.int 10) (.int 6) H Q := ⟨10, 6, rfl, rfl, ⟨by decide, by decide, by decide⟩, q⟩
theorem g_pow12 (q : Q (.int 1000000000000) H) : rPow (.int 10) (.int 12) H Q := ⟨10, 12, rfl, rfl, ⟨by decide, by decide, by decide⟩, q⟩
theorem g_pow18 (q : Q (.int 1000000000000000000) H) : rPow (.int 10) (.int 18) H Q := ⟨10, 18, rfl, rfl, ⟨by decide, by decide, by decide⟩, q⟩
theorem g_eq (c : scal x y = true) (q : Q (.bl (decide (x = y))) H) : rEq x y H Q := ⟨c, q⟩
theorem g_ne (c : scal x y = true) (q : Q (.bl (!decide (x = y))) H) : rNe x y H Q := ⟨c, q⟩
theorem g_ixL (h : SqL K H p xs) (a : atI xs i = some v) (q : Q v H) : rIxL K (.ref p) (.int i) H Q := ⟨p, xs, i, v, rfl, rfl, h, a, q⟩
theorem g_ixT (h : SqT K H p xs) (a : atI xs i = some v) (q : Q v H) : rIxT K (.ref p) (.int i) H Q := ⟨p, xs, i, v, rfl, rfl, h, a, q⟩
theorem g_setL {Q : Hp → Prop} {n : Nat} (h : H p = some (.lst xs)) (a : ixN xs.length i = some n) (q : Q (upd H p (.lst (xs.set n v)))) : rSetL (.ref p) (.int i) v H Q := ⟨p, xs, i, n, rfl, rfl, h, a, q⟩
theorem g_len (h : SqL K H p xs ∨ SqT K H p xs) (q : Q (.int xs.length) H) : rLen K [.ref p] H Q := ⟨p, xs, rfl, h, q⟩
theorem g_test {t : TE} {Q : Bool → Hp → Prop} (h : t σ H fun x H' => ∃ k, x = .bl k ∧ Q k H') : tTest t σ H Q := h
theorem g_bl {R : Bool → Prop} {k : Bool} (q : R k) : ∃ k', V.bl k = .bl k' ∧ R k' := ⟨k, rfl, q⟩
theorem g_sz {n : Nat} {R : Prop} (z : n ≤ sizeLine) (q : R) : n ≤ sizeLine ∧ R := ⟨z, q⟩
theorem g_slL {lo hi : Option Int} (h : SqL K H p xs) (q : ∀ a, Fr H a → Q (.ref a) (upd H a (.lst (cutV xs lo hi)))) : rSlL K (.ref p) lo hi H Q := ⟨p, xs, rfl, h, q⟩
theorem g_append (h : H p = some (.lst xs)) (z : xs.length < sizeLine) (q : Q .non (upd H p (.lst (xs ++ [y])))) : rAppend (.ref p) [y] H Q := ⟨p, xs, y, rfl, rfl, h, z, q⟩
theorem g_popAt {n : Nat} (h : H p = some (.lst xs)) (b1 : -(2 ^ 63) ≤ i) (b2 : i < 2 ^ 63) (s : seqIndex? i xs.length = some n) (a : xs[n]? = some v) (q : Q v (upd H p (.lst (xs.eraseIdx n)))) : rPopAt (.ref p) [.int i] H Q := ⟨p, xs, i, n, v, rfl, rfl, h, b1, b2, s, a, q⟩
theorem g_isN (q : Q (.bl (decide (x = .non))) H) : rIsN x .non H Q := ⟨rfl, q⟩
theorem g_notN (q : Q (.bl (!decide (x = .non))) H) : rNotN x .non H Q := ⟨rfl, q⟩
theorem g_neg (q : Q (.int (-i)) H) : rNeg (.int i) H Q := ⟨i, rfl, q⟩
theorem g_max2 (q : Q (.int (if j > i then j else i)) H) : rMax2 [.int i, .int j] H Q := ⟨i, j, rfl, q⟩
theorem g_min2 (q : Q (.int (if j < i then j else i)) H) : rMin2 [.int i, .int j] H Q := ⟨i, j, rfl, q⟩
end
section
variable {K : PySem.W.Frag} {H : Hp} {Q : VK} {i : Int} {p : Addr} {xs : List V}
theorem g_isi_int_int  (q : Q (.bl true) H) : rIsi K [.int i, .ty "int"] H Q := ⟨_, _, .type "int", .type "int", true, rfl, .ty _, .base (.int i), kit_ty (by decide +kernel), q⟩
theorem g_isi_int_bool  (q : Q (.bl false) H) : rIsi K [.int i, .ty "bool"] H Q := ⟨_, _, .type "int", .type "bool", false, rfl, .ty _, .base (.int i), kit_ty (by decide +kernel), q⟩
theorem g_isi_int_str  (q : Q (.bl false) H) : rIsi K [.int i, .ty "str"] H Q := ⟨_, _, .type "int", .type "str", false, rfl, .ty _, .base (.int i), kit_ty (by decide +kernel), q⟩
theorem g_isi_int_tuple  (q : Q (.bl false) H) : rIsi K [.int i, .ty "tuple"] H Q := ⟨_, _, .type "int", .type "tuple", false, rfl, .ty _, .base (.int i), kit_ty (by decide +kernel), q⟩
theorem g_isi_bl_int {k : Bool} (q : Q (.bl true) H) : rIsi K [.bl k, .ty "int"] H Q := ⟨_, _, .type "bool", .type "int", true, rfl, .ty _, .base (.bl k), kit_ty (by decide +kernel), q⟩
theorem g_isi_bl_bool {k : Bool} (q : Q (.bl true) H) : rIsi K [.bl k, .ty "bool"] H Q := ⟨_, _, .type "bool", .type "bool", true, rfl, .ty _, .base (.bl k), kit_ty (by decide +kernel), q⟩
theorem g_isi_bl_str {k : Bool} (q : Q (.bl false) H) : rIsi K [.bl k, .ty "str"] H Q := ⟨_, _, .type "bool", .type "str", false, rfl, .ty _, .base (.bl k), kit_ty (by decide +kernel), q⟩
theorem g_isi_bl_tuple {k : Bool} (q : Q (.bl false) H) : rIsi K [.bl k, .ty "tuple"] H Q := ⟨_, _, .type "bool", .type "tuple", false, rfl, .ty _, .base (.bl k), kit_ty (by decide +kernel), q⟩
theorem g_isi_str_int {z : Str} (q : Q (.bl false) H) : rIsi K [.str z, .ty "int"] H Q := ⟨_, _, .type "str", .type "int", false, rfl, .ty _, .base (.str z), kit_ty (by decide +kernel), q⟩
theorem g_isi_str_bool {z : Str} (q : Q (.bl false) H) : rIsi K [.str z, .ty "bool"] H Q := ⟨_, _, .type "str", .type "bool", false, rfl, .ty _, .base (.str z), kit_ty (by decide +kernel), q⟩
theorem g_isi_str_str {z : Str} (q : Q (.bl true) H) : rIsi K [.str z, .ty "str"] H Q := ⟨_, _, .type "str", .type "str", true, rfl, .ty _, .base (.str z), kit_ty (by decide +kernel), q⟩
theorem g_isi_str_tuple {z : Str} (q : Q (.bl false) H) : rIsi K [.str z, .ty "tuple"] H Q := ⟨_, _, .type "str", .type "tuple", false, rfl, .ty _, .base (.str z), kit_ty (by decide +kernel), q⟩
theorem g_isi_non_int  (q : Q (.bl false) H) : rIsi K [.non, .ty "int"] H Q := ⟨_, _, .type "NoneType", .type "int", false, rfl, .ty _, .base .non, kit_ty (by decide +kernel), q⟩
theorem g_isi_non_bool  (q : Q (.bl false) H) : rIsi K [.non, .ty "bool"] H Q := ⟨_, _, .type "NoneType", .type "bool", false, rfl, .ty _, .base .non, kit_ty (by decide +kernel), q⟩
theorem g_isi_non_str  (q : Q (.bl false) H) : rIsi K [.non, .ty "str"] H Q := ⟨_, _, .type "NoneType", .type "str", false, rfl, .ty _, .base .non, kit_ty (by decide +kernel), q⟩
theorem g_isi_non_tuple  (q : Q (.bl false) H) : rIsi K [.non, .ty "tuple"] H Q := ⟨_, _, .type "NoneType", .type "tuple", false, rfl, .ty _, .base .non, kit_ty (by decide +kernel), q⟩
theorem g_isi_lst_int (h : H p = some (.lst xs)) (q : Q (.bl false) H) : rIsi K [.ref p, .ty "int"] H Q := ⟨_, _, .type "list", .type "int", false, rfl, .ty _, .base (.lst h), kit_ty (by decide +kernel), q⟩
theorem g_isi_lst_bool (h : H p = some (.lst xs)) (q : Q (.bl false) H) : rIsi K [.ref p, .ty "bool"] H Q := ⟨_, _, .type "list", .type "bool", false, rfl, .ty _, .base (.lst h), kit_ty (by decide +kernel), q⟩
theorem g_isi_lst_str (h : H p = some (.lst xs)) (q : Q (.bl false) H) : rIsi K [.ref p, .ty "str"] H Q := ⟨_, _, .type "list", .type "str", false, rfl, .ty _, .base (.lst h), kit_ty (by decide +kernel), q⟩
theorem g_isi_lst_tuple (h : H p = some (.lst xs)) (q : Q (.bl false) H) : rIsi K [.ref p, .ty "tuple"] H Q := ⟨_, _, .type "list", .type "tuple", false, rfl, .ty _, .base (.lst h), kit_ty (by decide +kernel), q⟩
theorem g_isi_tup_int (h : H p = some (.tup xs)) (q : Q (.bl false) H) : rIsi K [.ref p, .ty "int"] H Q := ⟨_, _, .type "tuple", .type "int", false, rfl, .ty _, .base (.tup h), kit_ty (by decide +kernel), q⟩
theorem g_isi_tup_bool (h : H p = some (.tup xs)) (q : Q (.bl false) H) : rIsi K [.ref p, .ty "bool"] H Q := ⟨_, _, .type "tuple", .type "bool", false, rfl, .ty _, .base (.tup h), kit_ty (by decide +kernel), q⟩
theorem g_isi_tup_str (h : H p = some (.tup xs)) (q : Q (.bl false) H) : rIsi K [.ref p, .ty "str"] H Q := ⟨_, _, .type "tuple", .type "str", false, rfl, .ty _, .base (.tup h), kit_ty (by decide +kernel), q⟩
theorem g_isi_tup_tuple (h : H p = some (.tup xs)) (q : Q (.bl true) H) : rIsi K [.ref p, .ty "tuple"] H Q := ⟨_, _, .type "tuple", .type "tuple", true, rfl, .ty _, .base (.tup h), kit_ty (by decide +kernel), q⟩
end
/-! ### promises by the number of arguments -/
abbrev Sp0 (p : Hp → VK → XK → Prop) : Sp := fun vs H Q E => vs = [] ∧ p H Q E
abbrev Sp1 (p : V → Hp → VK → XK → Prop) : Sp := fun vs H Q E => ∃ a, vs = [a] ∧ p a H Q E
abbrev Sp2 (p : V → V → Hp → VK → XK → Prop) : Sp := fun vs H Q E => ∃ a b, vs = [a, b] ∧ p a b H Q E
abbrev Sp3 (p : V → V → V → Hp → VK → XK → Prop) : Sp := fun vs H Q E => ∃ a b c, vs = [a, b, c] ∧ p a b c H Q E
abbrev Sp4 (p : V → V → V → V → Hp → VK → XK → Prop) : Sp := fun vs H Q E => ∃ a b c d, vs = [a, b, c, d] ∧ p a b c d H Q E
abbrev Sp5 (p : V → V → V → V → V → Hp → VK → XK → Prop) : Sp := fun vs H Q E => ∃ a b c d e, vs = [a, b, c, d, e] ∧ p a b c d e H Q E

/-! ### heaps: all but some places is kept -/
/-- all that stood stands, but what is at the places of L -/
def Kp (L : List Addr) (H H' : Hp) : Prop := ∀ a o, H a = some o → a ∉ L → H' a = some o
theorem Kp.refl (L : List Addr) (H : Hp) : Kp L H H := fun _ _ h _ => h
theorem Kp.trans {L : List Addr} {H H1 H2 : Hp} (a : Kp L H H1) (b : Kp L H1 H2) : Kp L H H2 := fun c o h n => b c o (a c o h n) n
theorem Same.kp {H H' : Hp} (a : Same H H') (L : List Addr) : Kp L H H' := fun c o e _ => a c o e
theorem same_new {H : Hp} {p : Addr} {o : HO} (h : Fr H p) : Same H (upd H p o) := fun b x e => by
  rw [upd_ne (ne_of_none e h)]
  exact e
theorem kp_upd {H : Hp} {p : Addr} {o : HO} {L : List Addr} (h : p ∈ L) : Kp L H (upd H p o) := fun b x e n => by
  rw [upd_ne fun z => n (by rw [z]; exact h)]
  exact e
theorem Kp.new {L : List Addr} {H H' : Hp} {p : Addr} {o : HO} (a : Kp L H H') (h : Fr H' p) : Kp L H (upd H' p o) := a.trans (Same.kp (same_new h) L)
/-- a place that H did not know may change -/
theorem Kp.own {L : List Addr} {H H' : Hp} {p : Addr} {o : HO} (a : Kp L H H') (h : Fr H p) : Kp L H (upd H' p o) := fun b x e n => by
  rw [upd_ne (ne_of_none e h)]
  exact a b x e n
theorem SqT.kp {K : PySem.W.Frag} {L : List Addr} {H H' : Hp} {a : Addr} {xs : List V} (k : Kp L H H') (n : a ∉ L) (h : SqT K H a xs) : SqT K H' a xs := by
  rcases h with (h | ⟨o, h⟩) | h
  · exact .inl (.inl (k _ _ h n))
  · exact .inl (.inr ⟨o, k _ _ h n⟩)
  · exact .inr h
theorem SqL.kp {K : PySem.W.Frag} {L : List Addr} {H H' : Hp} {a : Addr} {xs : List V} (k : Kp L H H') (n : a ∉ L) (h : SqL K H a xs) : SqL K H' a xs := by
  rcases h with (h | ⟨o, h⟩) | h
  · exact .inl (.inl (k _ _ h n))
  · exact .inl (.inr ⟨o, k _ _ h n⟩)
  · exact .inr h
theorem get_kp {L : List Addr} {H H' : Hp} {p : Addr} {o : HO} (e : Kp L H H') (h : H p = some o) (n : p ∉ L) : H' p = some o := e p o h n
theorem at_new {H : Hp} {p a : Addr} {o u : HO} (hp : Fr H p) (h : H a = some o) : upd H p u a = some o := by
  rw [upd_ne (ne_of_none h hp)]
  exact h
theorem at_ne {H : Hp} {p a : Addr} {o u : HO} (n : a ≠ p) (h : H a = some o) : upd H p u a = some o := by
  rw [upd_ne n]
  exact h
theorem sm_new {H H' : Hp} {p : Addr} {o : HO} (hp : Fr H' p) (h : Same H H') : Same H (upd H' p o) := h.trans (same_new hp)
theorem sm_tr {H H1 H2 : Hp} (h : Same H1 H2) (e : Same H H1) : Same H H2 := e.trans h
theorem sm_own {H H' : Hp} {p : Addr} {o : HO} (hp : Fr H p) (h : Same H H') : Same H (upd H' p o) := fun b x e => at_ne (ne_of_none e hp) (h b x e)
theorem sql_new {K : PySem.W.Frag} {H : Hp} {p a : Addr} {o : HO} {xs : List V} (hp : Fr H p) (h : SqL K H a xs) : SqL K (upd H p o) a xs := Same.seq (same_new hp) h
theorem sq_or {K : PySem.W.Frag} {H : Hp} {p : Addr} {xs : List V} (h : H p = some (.lst xs)) : SqL K H p xs ∨ SqT K H p xs := .inl (SqL.of h)
theorem sq_orT {K : PySem.W.Frag} {H : Hp} {p : Addr} {xs : List V} (h : H p = some (.tup xs)) : SqL K H p xs ∨ SqT K H p xs := .inr (SqT.of h)
theorem atI_zero {x : V} {r : List V} : atI (x :: r) 0 = some x := by
  have h : (x :: r)[0]? = some x := rfl
  exact atI_nat (j := 0) h
theorem ite_t {c : Bool} {A B : Prop} (h : c = true) (x : A) : if c = true then A else B := by
  rw [if_pos h]
  exact x
theorem ite_f {c : Bool} {A B : Prop} (h : c = false) (x : B) : if c = true then A else B := by
  rw [h, if_neg Bool.false_ne_true]
  exact x
theorem ite_dt {p : Prop} [Decidable p] {A B : Prop} (h : p) (x : A) : if decide p = true then A else B := ite_t (decide_eq_true h) x
theorem ite_df {p : Prop} [Decidable p] {A B : Prop} (h : ¬ p) (x : B) : if decide p = true then A else B := ite_f (decide_eq_false h) x
theorem ite_b {c : Bool} {A B : Prop} (h1 : c = true → A) (h2 : c = false → B) : if c = true then A else B := by
  cases c with
  | true => rw [if_pos rfl]; exact h1 rfl
  | false => rw [if_neg Bool.false_ne_true]; exact h2 rfl
theorem ite_d {p : Prop} [Decidable p] {A B : Prop} (h1 : p → A) (h2 : ¬ p → B) : if decide p = true then A else B := ite_b (fun h => h1 (of_decide_eq_true h)) fun h => h2 (of_decide_eq_false h)
theorem ite_nt {A B : Prop} (x : B) : if (!true) = true then A else B := ite_f rfl x
theorem ite_nf {A B : Prop} (x : A) : if (!false) = true then A else B := ite_t rfl x
theorem ite_nd {p : Prop} [Decidable p] {A B : Prop} (h1 : p → B) (h2 : ¬ p → A) : if (!decide p) = true then A else B := ite_b (fun h => h2 (by simpa using h)) fun h => h1 (by simpa using h)
theorem int_eq {i j : Int} : decide (V.int i = V.int j) = decide (i = j) := by
  by_cases h : i = j
  · subst h; simp
  · simp [h]
theorem str_eq {i j : Str} : decide (V.str i = V.str j) = decide (i = j) := by
  by_cases h : i = j
  · subst h; simp
  · simp [h]
theorem map_get {α : Type} {f : α → V} {ns : List α} {i : Nat} {y : V} (h : (ns.map f)[i]? = some y) : ∃ z, y = f z ∧ ns[i]? = some z := by
  rw [List.getElem?_map] at h
  cases e : ns[i]? with
  | none => rw [e] at h; cases h
  | some z => rw [e] at h; exact ⟨z, (Option.some.inj h).symm, rfl⟩
theorem cut_to {xs : List V} {n : Int} (h : 0 ≤ n) : cutV xs none (some n) = xs.take n.toNat := by
  obtain ⟨k, rfl⟩ : ∃ k : Nat, n = k := ⟨n.toNat, by omega⟩
  unfold cutV
  rw [HT.sIx_none, HT.sIx_nat]
  simp only [List.drop_zero, Nat.sub_zero, Int.toNat_natCast]
  rw [List.take_eq_take_iff]
  simp
theorem cut_from {xs : List V} {n : Int} (h : 0 ≤ n) : cutV xs (some n) none = xs.drop n.toNat := by
  obtain ⟨k, rfl⟩ : ∃ k : Nat, n = k := ⟨n.toNat, by omega⟩
  unfold cutV
  rw [HT.sIx_none, HT.sIx_nat]
  simp only [Int.toNat_natCast]
  by_cases hk : k ≤ xs.length
  · rw [Nat.min_eq_left hk, List.take_of_length_le (by rw [List.length_drop]; omega)]
  · rw [Nat.min_eq_right (by omega), List.drop_of_length_le (by omega), List.drop_of_length_le (by omega)]
    simp
theorem cut_mid {xs : List V} {n m : Int} (h : 0 ≤ n) (h' : 0 ≤ m) : cutV xs (some n) (some m) = (xs.take m.toNat).drop n.toNat := by
  obtain ⟨k, rfl⟩ : ∃ k : Nat, n = k := ⟨n.toNat, by omega⟩
  obtain ⟨l, rfl⟩ : ∃ l : Nat, m = l := ⟨m.toNat, by omega⟩
  unfold cutV
  rw [HT.sIx_nat, HT.sIx_nat]
  simp only [Int.toNat_natCast]
  rw [List.drop_take]
  by_cases hk : k ≤ xs.length
  · rw [Nat.min_eq_left hk, List.take_eq_take_iff]
    simp
    omega
  · rw [Nat.min_eq_right (show xs.length ≤ k by omega), List.drop_of_length_le (Nat.le_refl _), List.drop_of_length_le (by omega)]
    simp
theorem at_k0 {xs : List V} {v : V} (h : xs[0]? = some v) : atI xs 0 = some v := atI_nat (j := 0) h
theorem at_k1 {xs : List V} {v : V} (h : xs[1]? = some v) : atI xs 1 = some v := atI_nat (j := 1) h
theorem at_k2 {xs : List V} {v : V} (h : xs[2]? = some v) : atI xs 2 = some v := atI_nat (j := 2) h
theorem at_k3 {xs : List V} {v : V} (h : xs[3]? = some v) : atI xs 3 = some v := atI_nat (j := 3) h
theorem ix_k0 {n : Nat} (h : 0 < n) : ixN n 0 = some 0 := by
  unfold ixN
  simp
  omega
theorem ix_k1 {n : Nat} (h : 1 < n) : ixN n 1 = some 1 := by
  unfold ixN
  simp
  omega
/-- one of a written list's items -/
theorem pick {xs : List V} {i : Int} (h0 : 0 ≤ i) (h : i < xs.length) : ∃ v, atI xs i = some v ∧ v ∈ xs := by
  have hj : i.toNat < xs.length := by omega
  have e : ((i.toNat : Nat) : Int) = i := by omega
  exact ⟨xs[i.toNat], by
    have h := atI_nat (List.getElem?_eq_getElem hj)
    rwa [e] at h, List.getElem_mem hj⟩
theorem g_pick2 {K : PySem.W.Frag} {H : Hp} {Q : VK} {p : Addr} {a b w : Int} (h : SqL K H p [.int a, .int b]) (h0 : 0 ≤ w) (h1 : w < 2) (q : ∀ v : Int, v = a ∨ v = b → Q (.int v) H) : rIxL K (.ref p) (.int w) H Q := by
  obtain ⟨v, hv, hm⟩ := pick (xs := [.int a, .int b]) h0 h1
  simp only [List.mem_cons, List.not_mem_nil, or_false] at hm
  rcases hm with rfl | rfl <;> exact ⟨p, _, w, _, rfl, rfl, h, hv, q _ (by simp)⟩
theorem g_pick4 {K : PySem.W.Frag} {H : Hp} {Q : VK} {p : Addr} {a b c d w : Int} (h : SqL K H p [.int a, .int b, .int c, .int d]) (h0 : 0 ≤ w) (h1 : w < 4) (q : ∀ v : Int, v = a ∨ v = b ∨ v = c ∨ v = d → Q (.int v) H) : rIxL K (.ref p) (.int w) H Q := by
  obtain ⟨v, hv, hm⟩ := pick (xs := [.int a, .int b, .int c, .int d]) h0 h1
  simp only [List.mem_cons, List.not_mem_nil, or_false] at hm
  rcases hm with rfl | rfl | rfl | rfl <;> exact ⟨p, _, w, _, rfl, rfl, h, hv, q _ (by simp)⟩
theorem g_pick5 {K : PySem.W.Frag} {H : Hp} {Q : VK} {p : Addr} {a b c d e w : Int} (h : SqL K H p [.int a, .int b, .int c, .int d, .int e]) (h0 : 0 ≤ w) (h1 : w < 5) (q : ∀ v : Int, v = a ∨ v = b ∨ v = c ∨ v = d ∨ v = e → Q (.int v) H) : rIxL K (.ref p) (.int w) H Q := by
  obtain ⟨v, hv, hm⟩ := pick (xs := [.int a, .int b, .int c, .int d, .int e]) h0 h1
  simp only [List.mem_cons, List.not_mem_nil, or_false] at hm
  rcases hm with rfl | rfl | rfl | rfl | rfl <;> exact ⟨p, _, w, _, rfl, rfl, h, hv, q _ (by simp)⟩
theorem g_pick {K : PySem.W.Frag} {H : Hp} {Q : VK} {p : Addr} {xs : List V} {w : Int} (h : SqL K H p xs) (h0 : 0 ≤ w) (h1 : w < xs.length) (q : ∀ v, v ∈ xs → Q v H) : rIxL K (.ref p) (.int w) H Q := by
  obtain ⟨v, hv, hm⟩ := pick (xs := xs) h0 h1
  exact ⟨p, _, w, _, rfl, rfl, h, hv, q _ hm⟩
theorem kp_tr {L : List Addr} {H H1 H2 : Hp} (b : Kp L H1 H2) (a : Kp L H H1) : Kp L H H2 := a.trans b
theorem kp_own {L : List Addr} {H H' : Hp} {p : Addr} {o : HO} (hp : Fr H p) (a : Kp L H H') : Kp L H (upd H' p o) := Kp.own a hp
theorem kp_new {L : List Addr} {H H' : Hp} {p : Addr} {o : HO} (hp : Fr H' p) (a : Kp L H H') : Kp L H (upd H' p o) := Kp.new a hp
theorem g_all {K : PySem.W.Frag} {H : Hp} {Q : VK} {p : Addr} {bs : List Bool} (h : SqL K H p (bs.map V.bl)) (q : Q (.bl (bs.all id)) H) : rAll K [.ref p] H Q := ⟨p, bs, rfl, h, q⟩
theorem g_lenA {K : PySem.W.Frag} {H : Hp} {Q : VK} {x : V} {n : Nat} (h : LenV K x H n) (q : Q (.int n) H) : rLenA K [x] H Q := ⟨x, n, rfl, h, q⟩
theorem g_cat {H : Hp} {Q : VK} {p b : Addr} {xs zs : List V} (h : H p = some (.lst xs)) (h2 : H b = some (.lst zs)) (z : xs.length + zs.length ≤ sizeLine) (q : ∀ l, Fr H l → Q (.ref l) (upd H l (.lst (xs ++ zs)))) : rCat (.ref p) (.ref b) H Q := ⟨p, b, xs, zs, rfl, rfl, h, h2, z, q⟩
theorem g_pickL {K : PySem.W.Frag} {H : Hp} {Q : VK} {p : Addr} {xs : List V} {w n : Int} (h : H p = some (.lst xs)) (h0 : 0 ≤ w) (h1 : w < n) (e : n = (xs.length : Nat)) (q : ∀ v, v ∈ xs → Q v H) : rIxL K (.ref p) (.int w) H Q := g_pick (SqL.of h) h0 (by rw [← e]; exact h1) q
/-! YG: defs that are only ever run while no display of a container goes on: what repr of lists and tuples wants. -/
open PySem PySem.Spec PyProof.Rows L2
/-- room, and no display under way -/
structure RoomG (k : Nat) (A : Around) : Prop where
  rm : Room k A
  no : A.guards = some []
theorem RoomG.mono {i k : Nat} {A : Around} (r : RoomG k A) (h : i ≤ k) : RoomG i A := ⟨r.rm.mono h, r.no⟩
theorem RoomG.deeper {k : Nat} {A : Around} (r : RoomG (k + 1) A) (v : Env) : RoomG k (A.deeper v) := ⟨r.rm.deeper v, r.no⟩
theorem RoomG.units {k : Nat} {A : Around} (r : RoomG k A) : A.units + 64 < cLine := r.rm.units
theorem make_guards {A : Around} {C : Addr} {us : List Value} : (A.under (.builtin "type.__call__" ⟨.ref C :: us, []⟩)).guards = A.guards := by
  have e : (Code.builtin "type.__call__" ⟨.ref C :: us, []⟩).guards = [] := by
    unfold Code.guards
    rw [if_neg]
    simp [Code.isGuard, guardIds]
  show pushGuards (Code.builtin "type.__call__" ⟨.ref C :: us, []⟩).guards A.guards = A.guards
  rw [e, pushGuards_eq]
  cases A.guards <;> simp
theorem RoomG.make {k : Nat} {A : Around} (r : RoomG (k + 1) A) (C : Addr) (us : List Value) : RoomG k (A.under (.builtin "type.__call__" ⟨.ref C :: us, []⟩)) := ⟨r.rm.make C us [], make_guards.trans r.no⟩
/-- a def keeps its promise wherever there is room and no display under way -/
structure FnG (P : Program) (w : World) (K : PySem.W.Frag) (mg : Str → Option Value) (base : Heap) (CX : CXT) (k : Nat) (f : Addr) (fd : FuncData) (ps : List Str) (sp : Sp) : Prop where
  len : ∀ vs H Q E, sp vs H Q E → vs.length = ps.length
  run : ∀ (A : Around) (outer : List Env) (s : Shared) (H : Hp) (args : Args) (us : List Value) (vs : List V) (Q : VK) (E : XK), RoomG k A → Env0 P w K mg base A outer s H → BindsTo s fd args (ps.zip us) → Vals vs us →
    sp vs H Q E → codeAny (model P w) A (.call (.ref f) args) (CR CX outer P w H s Q E) s
section
variable {X : Cx} {CX : CXT} {k : Nat} {f C : Addr} {fd : FuncData} {ps : List Str} {sp : Sp} {dvs : List V} {ds : List Value} {E : XK} {x m : Str} {p pos apos : Pos} {e o : Expr} {es : List Expr} {ta : TE} {t : TA} {pins : List (Addr × Obj)} {σ : L2.St} {H : Hp} {s : Shared} {Q : VK} {us : List Value} {vs : List V}
/-- the callee's run, from a body -/
theorem g_runs (F : FnG X.prog X.w X.K X.mg X.base CX k f fd ps sp) (room : RoomG k X.A) (bi : Binds X.K fd ps ds) (dv : Vals dvs ds) (pass : Passes CX X E) (I : Inv X pins σ H s) (rv : Vals vs us) (pr : sp (vs ++ dvs) H Q E) :
    wpAny (model X.prog X.w) X.A (call (.ref f) us) (EP X pins σ Q) X.xe s := by
  have whole := rv.append dv
  have n : (us ++ ds).length = ps.length := whole.length.symm.trans (F.len _ _ _ _ pr)
  refine wpAny_call (codeAny_mono (F.run _ _ _ _ _ _ _ _ _ room I.env0 (bi _ _ I.kIn n) whole pr) ?_)
  intro end_ s' h
  match end_, h with
  | .error _, h => exact pass _ _ _ _ _ _ I h
  | .ok (.ret _), h => exact I.after h
theorem g_pe_call (F : FnG X.prog X.w X.K X.mg X.base CX k f fd ps sp) (room : RoomG k X.A) (gl : Gl X x) (at_ : X.mg x = some (.ref f)) (kept : PySem.W.keepIn X.K (.ref f) = true) (bi : Binds X.K fd ps ds) (dv : Vals dvs ds) (pass : Passes CX X E) (args : PA X (e :: es) t)
    (nd : (x == ("__debug__" : Str)) = false := by decide) (st : starEach (e :: es) X.env = (false, eval e X.env) :: starEach es X.env := by rfl) (pl : (backTo pos (starEach es X.env)).any (·.1) = false := by rfl) :
    PE X (.Call (.Name x p) (e :: es) [] pos) (tCall sp dvs E t) := ⟨fun pins s σ H Q I h =>
  wpAny_Call_Name_kw (ld_glob I gl at_ (PySem.W.callWith_K (h₀ := X.base) I.ok.mod.kin kept (thn (args.run pos pins s σ H _ I h) fun _ _ ⟨_, _, I1, r, q⟩ => ⟨I1.kIn, g_runs F room bi dv pass I1 r q⟩) st pl) nd)⟩
theorem g_pe_meth0 {pl : Sem Bool} (ob : PE X o ta) (cl : Cls X.K C) (me : Meth X.K C m f) (F : FnG X.prog X.w X.K X.mg X.base CX k f fd ps sp) (room : RoomG k X.A) (bi : Binds X.K fd ps ds) (dv : Vals dvs ds) (pass : Passes CX X E)
    (arm : eval (.Call (.Attribute o m apos) [] [] pos) X.env = (do
      let r ← eval o X.env
      standAt apos.atName
      let (g, first) ← holding [r] (getMethod r m pl)
      callWith pos g first (backTo pos (starEach [] X.env)) (backToKw pos (keywordEach [] X.env))) := by rfl) :
    PE X (.Call (.Attribute o m apos) [] [] pos) (tMeth C m sp dvs E ta tNil) := ⟨fun pins s σ H Q I h => by
  refine PySem.W.methodCall_KW (pl := pl) (thn (ob.run pins s σ H _ I h) ?_) arm
  rintro u s1 ⟨_, H1, I1, rx, a, dx, fs, rfl, at_, no, q⟩
  obtain rfl : u = Value.ref a := rx
  exact getmeth_ok I1 at_ cl me no (PySem.W.callWith_K0 (first := [.ref a]) I1.kIn me.kp (g_runs (us := [.ref a]) (vs := [.ref a]) F room bi dv pass I1 (.cons rfl .nil) q))⟩
/-- a class is made -/
theorem g_makes (M : Mk X.K C f) (F : FnG X.prog X.w X.K X.mg X.base CX k f fd ps sp) (room : RoomG (k + 1) X.A) (bi : Binds X.K fd ps ds) (dv : Vals dvs ds) (pass : Passes CX X E) (I : Inv X pins σ H s) (rv : Vals vs us)
    (pr : ∀ x dx, H x = none → H dx = none → dx ≠ x → sp (.ref x :: (vs ++ dvs)) (upd (upd H dx (.own x)) x (.ins C dx [])) (fun v H2 => v = .non ∧ Q (.ref x) H2) E) :
    wpAny (model X.prog X.w) X.A (call (.ref C) us) (EP X pins σ Q) X.xe s := by
  have J := Inv.made (C := C) I
  have z := pr _ _ (I.hok.fresh (Nat.le_succ s.heap.objs.size)) (I.hok.fresh (Nat.le_refl s.heap.objs.size)) (Nat.ne_of_lt (Nat.lt_succ_self _))
  have whole : Vals (V.ref (s.heap.objs.size + 1) :: (vs ++ dvs)) (Value.ref (s.heap.objs.size + 1) :: (us ++ ds)) := .cons rfl (rv.append dv)
  have n : ((Value.ref (s.heap.objs.size + 1) :: us) ++ ds).length = ps.length := whole.length.symm.trans (F.len _ _ _ _ z)
  refine wpAny_call (make_map (f := f) I.kIn M.makes M.init (beq_iff_eq.mp M.fn) (codeAny_mono (F.run _ _ _ _ _ _ _ _ _ (room.make C us) (J.env0.make C us []) (bi _ _ J.kIn n) whole z) ?_))
  intro end_ s' h
  match end_, h with
  | .error _, h => exact pass _ _ _ _ _ _ J h
  | .ok (.ret _), h =>
    obtain ⟨v, H', J', rv', rfl, q'⟩ := J.after h
    exact ⟨rv', V.ref (s.heap.objs.size + 1), H', J', rfl, q'⟩
theorem g_pe_make (M : Mk X.K C f) (F : FnG X.prog X.w X.K X.mg X.base CX k f fd ps sp) (room : RoomG (k + 1) X.A) (gl : Gl X x) (at_ : X.mg x = some (.ref C)) (bi : Binds X.K fd ps ds) (dv : Vals dvs ds) (pass : Passes CX X E) (args : PA X (e :: es) t)
    (nd : (x == ("__debug__" : Str)) = false := by decide) (st : starEach (e :: es) X.env = (false, eval e X.env) :: starEach es X.env := by rfl) (pl : (backTo pos (starEach es X.env)).any (·.1) = false := by rfl) :
    PE X (.Call (.Name x p) (e :: es) [] pos) (tMake C sp dvs E t) := ⟨fun pins s σ H Q I h =>
  wpAny_Call_Name_kw (ld_glob I gl at_ (PySem.W.callWith_K (h₀ := X.base) I.ok.mod.kin M.kp (thn (args.run pos pins s σ H _ I h) fun _ _ ⟨_, _, I1, r, q⟩ => ⟨I1.kIn, g_makes M F room bi dv pass I1 r q⟩) st pl) nd)⟩
end
section
variable {P : Program} {w : World} {K : PySem.W.Frag} {mg : Str → Option Value} {base : Heap} {CX : CXT} {k : Nat} {x qual : Str} {params : Arguments} {body : List Stmt} {scope : Scope} {dvs : List V} {kws : List (Str × V)} {f : Addr} {fd : FuncData} {N ps : List Str} {sp : Sp}
/-- a def of the text keeps its promise, by its body -/
theorem g_def (F : FunD K x qual params body scope dvs kws f fd) (S : FnScope N ps scope) (len : ∀ vs H Q E, sp vs H Q E → vs.length = ps.length)
    (inside : ∀ (cdv : Value) (A : Around) (outer : List Env) (s : Shared) (H : Hp) (vs : List V) (Q : VK) (E : XK), RoomG k (A.deeper (envOfC qual scope s.heap.objs.size f cdv)) → sp vs H Q E →
      ∃ t, PSs (cxOf CX P w K mg base N qual scope f cdv A outer s H E) body t ∧ t { nx := fun _ H' => Q .non H', rt := Q } (start N vs) H) : FnG P w K mg base CX (k + 1) f fd ps sp where
  len := len
  run := fun A outer s H args us vs Q E room e0 bi rv pr => by
    obtain ⟨_, _, dV, kV, doc, pm, an, cdv, ct, _, rfl, stands, code, -, -⟩ := F.ex
    have n := len _ _ _ _ pr
    have bs := fun b o e => (e0.bs b o e).1
    have hK : K.In s.heap := e0.mod.kin.keeps bs
    have par : ∀ y ∈ ps.zip us, scope.names.lookup y.1 = some .local ∨ (scope.names.lookup y.1 = some .cell ∧ ((cellsFrom (s.heap.objs.size + 1) scope.names []).lookup y.1).isSome = true) := fun y hy =>
      (S.par y.1 (List.of_mem_zip (show (y.1, y.2) ∈ ps.zip us from hy)).1).imp id fun z => ⟨z, PySem.W.cellsFrom_some _ _ _ (.inl z)⟩
    refine codeAny_call_function room.rm.depth (hK _ _ stands) rfl S.co S.gen rfl (PySem.W.codeRec_of hK code) (bi _ _ _ _ (wpAny_newFunctionEnv_cells S.kind par ?_))
    rintro _ rfl s1 into
    refine ⟨(e0.mod.nolimit.keeps bs).keeps into.toInCall.keep, codeAny_func ?_⟩
    obtain ⟨t, reads, holds⟩ := inside cdv A outer s H vs Q E (room.deeper _) pr
    have I := inv_start (CX := CX) (E := E) (cd := cdv) S room.rm.hd e0 n rv into
    refine wpAny_mono (reads.run [] s1 (start N vs) H _ I holds) ?_ fun _ _ z => z
    intro fl s' z
    match fl, z with
    | .ret _, ⟨v, _, H', J, rr, q⟩ => exact ⟨v, H', J.os, J.bare, J.base, J.hok, rr, q⟩
    | .next, ⟨_, H', J, q⟩ => exact ⟨.non, H', J.os, J.bare, J.base, J.hok, rfl, q⟩
    | .brk, ⟨_, _, _, q⟩ => exact q.elim
    | .cont, ⟨_, _, _, q⟩ => exact q.elim
end
/-! ### the law's end -/
section
variable {P : Program} {w : World} {K : PySem.W.Frag} {mg mb : Str → Option Value} {CX : CXT} {k : Nat} {fa a : Addr} {fd : FuncData} {x : Str} {sp : Sp} {s₁ : Shared} {vs : List Value} {ns : List Int}
/-- the law's call, from an abstract heap that knows nothing but the script -/
theorem g_top {H : Hp} (KX : K.In s₁.heap) (hns : s₁.heap.Ns mainGlobals mg) (hb : s₁.heap.Ns builtinsNs mb) (hbb : ∀ x : Str, x ≠ "__name__" → mb x = bootBuiltins x) (hlim : s₁.heap.NoLimit) (hg : s₁.gens = #[])
    (ha : s₁.heap.get? a = some { cls := .type "list", data := .seq vs.toArray }) (room : RoomG k callerA)
    (F : ∀ base : Heap, K.In base → base.Ns mainGlobals mg → FnG P w K mg base CX k fa fd [x] sp) (bi : ∀ (s : Shared) (u : Value), BindsTo s fd ⟨[u], []⟩ [(x, u)])
    (pr : sp [.ref a] H (fun v _ => v = .bl true) fun _ _ _ => False) (no : ∀ e s', CX [] H s₁ (fun _ _ _ => False) e s' → False)
    (only : Only H) (ok : HOk P w H s₁.heap) (hA : ∀ b, H b ≠ none → b = a) (hK : H a ≠ none → K.lookup a = none) :
    codeAny (model P w) callerA (.call (.ref fa) ⟨[.ref a], []⟩) (fun r s' => r = .ok (.ret (.bool true)) ∧ OldK s₁.heap s'.heap ∧ s'.os = s₁.os ∧ AllBare s'.gens) s₁ := by
  have dictFree : ∀ {b : Addr} {o : Obj} {es : Array DictEntry} {n : Nat}, s₁.heap.get? b = some o → o.data = .dict es n → H b = none := by
    intro b o es n e d
    by_cases z : H b = none
    · exact z
    · obtain rfl := hA b z
      cases ha.symm.trans e
      cases d
  have space : ∀ {b : Addr} {m : Str → Option Value}, s₁.heap.Ns b m → (hidT s₁.heap H).Ns b m := by
    rintro b m ⟨o, es, n, e, d, rest⟩
    exact ⟨o, es, n, hidT_get e (dictFree e d), d, rest⟩
  have mine : K.In (hidT s₁.heap H) := by
    intro b o e
    refine hidT_get (KX b o e) ?_
    by_cases z : H b = none
    · exact z
    · obtain rfl := hA b z
      rw [hK z] at e
      cases e
  have lim : (hidT s₁.heap H).NoLimit := by
    obtain ⟨m, h1, h2⟩ := hlim
    exact ⟨m, space h1, h2⟩
  have e0 : Env0 P w K mg (hidT s₁.heap H) callerA [] s₁ H :=
    { frames := rfl, mod := ⟨mine, space hns, ⟨mb, space hb, hbb⟩, lim⟩, bs := fun _ _ e => of_hidT e, bsz := Nat.le_of_eq (hidT_size _ _), funs := trivial, frf := fun b z => absurd (show b ∈ ([] : List Addr) from z) (by simp), hok := ok, bare := .of_eq hg }
  refine codeAny_mono ((F _ mine (space hns)).run callerA [] s₁ H ⟨[.ref a], []⟩ [.ref a] [.ref a] _ _ room e0 (bi s₁ (.ref a)) (.cons rfl .nil) pr) ?_
  intro end_ s' z
  match end_, z with
  | .error _, z => exact (no _ _ z).elim
  | .ok (.ret u), ⟨v, H', os, bare, un, ok', rr, q⟩ =>
    obtain rfl : v = .bl true := q
    obtain rfl : u = Value.bool true := rr
    refine ⟨rfl, OldK.of_keep fun b o e => ?_, os, bare⟩
    rcases only b with z | ⟨ob, xs, z⟩
    · exact un.keep b o e z (fun y => absurd (show b ∈ ([] : List Addr) from y) (by simp)) (by simp)
    · obtain ⟨y1, -⟩ := ok b _ z
      obtain ⟨y2, -⟩ := ok' b _ (un.frzs b ob _ z)
      cases e.symm.trans y1
      exact y2
theorem g_law (KX : K.In s₁.heap) (hns : s₁.heap.Ns mainGlobals mg) (hb : s₁.heap.Ns builtinsNs mb) (hbb : ∀ x : Str, x ≠ "__name__" → mb x = bootBuiltins x) (hlim : s₁.heap.NoLimit) (hg : s₁.gens = #[])
    (ha : s₁.heap.get? a = some { cls := .type "list", data := .seq vs.toArray }) (hi : IntsAre vs ns) (hl : ns.length ≤ sizeLine) (room : RoomG k callerA)
    (F : ∀ base : Heap, K.In base → base.Ns mainGlobals mg → FnG P w K mg base CX k fa fd [x] sp) (bi : ∀ (s : Shared) (u : Value), BindsTo s fd ⟨[u], []⟩ [(x, u)])
    (pr : ∀ H : Hp, Only H → SqL K H a (ns.map V.int) → sp [.ref a] H (fun v _ => v = .bl true) fun _ _ _ => False) (no : ∀ H e s', CX [] H s₁ (fun _ _ _ => False) e s' → False) :
    codeAny (model P w) callerA (.call (.ref fa) ⟨[.ref a], []⟩) (fun r s' => r = .ok (.ret (.bool true)) ∧ OldK s₁.heap s'.heap ∧ s'.os = s₁.os ∧ AllBare s'.gens) s₁ := by
  have rv := vals_ints hi
  have n := hi.length
  rcases hk : K.lookup a with _ | o
  · let o0 : Obj := { cls := .type "list", data := .seq vs.toArray }
    let H : Hp := fun b => if b = a then some (.frz o0 (.lst (ns.map V.int))) else none
    have Ha : H a = some (.frz o0 (.lst (ns.map V.int))) := if_pos rfl
    have Hn : ∀ b, b ≠ a → H b = none := fun b z => if_neg z
    have only : Only H := fun b => if z : b = a then .inr ⟨o0, ns.map V.int, by rw [z]; exact Ha⟩ else .inl (Hn b z)
    refine g_top (H := H) KX hns hb hbb hlim hg ha room F bi (pr H only (.inl (.inr ⟨o0, Ha⟩))) (no H) only ?_ (fun b z => ?_) fun _ => hk
    · intro b u z
      by_cases y : b = a
      · subst y
        cases Ha.symm.trans z
        exact ⟨ha, by rw [List.length_map]; exact hl, vs, _, rv, ha⟩
      · cases (Hn b y).symm.trans z
    · by_cases y : b = a
      · exact y
      · exact absurd (Hn b y) z
  · cases (KX a o hk).symm.trans ha
    have only : Only fun _ => none := fun _ => .inl rfl
    exact g_top (H := fun _ => none) KX hns hb hbb hlim hg ha room F bi (pr _ only (.inr ⟨_, vs.toArray, _, hk, rfl, rfl, rfl, by rw [List.size_toArray, n]; exact hl, by simpa using rv⟩)) (no _) only (fun b u z => nomatch (show (none : Option HO) = some u from z)) (fun b z => absurd rfl z) fun z => absurd rfl z
end
/-- a law, of defs that are run while no display goes on -/
theorem g_walk {l : PySem.W.OpenLaw} {n k : Nat} {q : Program} {loose : List Str} {XP : (Str → Option Value) → Heap → Prop} {YP : World → Heap → Prop} {d : DefRec} {CX : CXT} {x : Str} (hn : l.most = some n) (hn2 : n ≤ sizeLine) (hdf : d.params.defaults = []) (room : Room k callerA)
    (F : ∀ (w : World) (mg : Str → Option Value) (fa : Addr) (h : Heap), YP w h → h.Ns mainGlobals mg → mg d.name = some (.ref fa) →
      ∃ (K : PySem.W.Frag) (fd : FuncData) (sp : Sp), K.In h ∧ (∀ (s : Shared) (u : Value), BindsTo s fd ⟨[u], []⟩ [(x, u)]) ∧
        (∀ (H : Hp) (a : Addr) (ns : List Int), ns.length ≤ n → Only H → SqL K H a (ns.map V.int) → sp [.ref a] H (fun v _ => v = .bl true) fun _ _ _ => False) ∧ ∀ base : Heap, K.In base → base.Ns mainGlobals mg → FnG l.prog w K mg base CX k fa fd [x] sp)
    (no : ∀ (H : Hp) (s : Shared) (e : Value) (s' : Shared), CX [] H s (fun _ _ _ => False) e s' → False) : PySem.W.WalkO q loose XP YP l.row.toRowW d [] (fun f vs => PySem.call f vs) := by
  refine Att.attach_call hn hdf ?_
  intro w s₀ s₁ mg mb fa o pm cd doc a vs ns G Y ho hd hcd hmg hobj hints hlen hg
  obtain ⟨K, fd, sp, KX, bi, pr, hF⟩ := F w mg fa _ Y G.T.g hmg
  exact g_law KX G.T.g G.T.b G.T.builtins G.T.nolimit hg hobj hints (Nat.le_trans hlen hn2) ⟨room, rfl⟩ hF bi (fun H => pr H a ns hlen) (fun H => no H s₁)
/-! ### repr of data -/
/-- repr(x) of data -/
def rReprD (K : PySem.W.Frag) : List V → Hp → VK → Prop := fun vs H Q => ∃ x d, vs = [x] ∧ Dp K H x d ∧ d.showable = true ∧ d.hasDict = false ∧ d.depth ≤ 60 ∧ d.shown.length ≤ sizeLine ∧ Q (.str d.shown) H
/-! ### a def that may be called by its name, a class that may be made, a method -/
structure Cal (P : Program) (w : World) (K : PySem.W.Frag) (mg : Str → Option Value) (base : Heap) (CX : CXT) (k : Nat) (x : Str) (sp : Sp) (dvs : List V) : Prop where
  ex : ∃ (f : Addr) (fd : FuncData) (ps : List Str) (ds : List Value), FnG P w K mg base CX k f fd ps sp ∧ mg x = some (.ref f) ∧ PySem.W.keepIn K (.ref f) = true ∧ Binds K fd ps ds ∧ Vals dvs ds
structure Mak (P : Program) (w : World) (K : PySem.W.Frag) (mg : Str → Option Value) (base : Heap) (CX : CXT) (k : Nat) (x : Str) (C : Addr) (sp : Sp) (dvs : List V) : Prop where
  ex : ∃ (f : Addr) (fd : FuncData) (ps : List Str) (ds : List Value), Mk K C f ∧ FnG P w K mg base CX k f fd ps sp ∧ mg x = some (.ref C) ∧ Binds K fd ps ds ∧ Vals dvs ds
structure Met (P : Program) (w : World) (K : PySem.W.Frag) (mg : Str → Option Value) (base : Heap) (CX : CXT) (k : Nat) (C : Addr) (m : Str) (sp : Sp) (dvs : List V) : Prop where
  ex : ∃ (f : Addr) (fd : FuncData) (ps : List Str) (ds : List Value), Cls K C ∧ Meth K C m f ∧ FnG P w K mg base CX k f fd ps sp ∧ Binds K fd ps ds ∧ Vals dvs ds
section
variable {X : Cx} {CX : CXT} {E : XK} {k j : Nat} {C : Addr} {x m : Str} {sp : Sp} {dvs : List V} {p pos apos : Pos} {e o : Expr} {es : List Expr} {ta : TE} {t : TA}
theorem pe_c (c : Cal X.prog X.w X.K X.mg X.base CX k x sp dvs) (hr : RoomG j X.A) (hk : k ≤ j) (hg : Gl X x) (hx : Passes CX X E) (ha : PA X (e :: es) t)
    (hdb : (x == ("__debug__" : Str)) = false := by decide) (he : starEach (e :: es) X.env = (false, eval e X.env) :: starEach es X.env := by rfl) (hpl : (backTo pos (starEach es X.env)).any (·.1) = false := by rfl) :
    PE X (.Call (.Name x p) (e :: es) [] pos) (tCall sp dvs E t) := by
  obtain ⟨f, fd, ps, ds, F, hm, kp, b, d⟩ := c.ex
  exact g_pe_call F (hr.mono hk) hg hm kp b d hx ha hdb he hpl
theorem pe_k (c : Mak X.prog X.w X.K X.mg X.base CX k x C sp dvs) (hr : RoomG j X.A) (hk : k + 1 ≤ j) (hg : Gl X x) (hx : Passes CX X E) (ha : PA X (e :: es) t)
    (hdb : (x == ("__debug__" : Str)) = false := by decide) (he : starEach (e :: es) X.env = (false, eval e X.env) :: starEach es X.env := by rfl) (hpl : (backTo pos (starEach es X.env)).any (·.1) = false := by rfl) :
    PE X (.Call (.Name x p) (e :: es) [] pos) (tMake C sp dvs E t) := by
  obtain ⟨f, fd, ps, ds, M, F, hm, b, d⟩ := c.ex
  exact g_pe_make M F (hr.mono hk) hg hm b d hx ha hdb he hpl
theorem pe_m0 {pl : Sem Bool} (c : Met X.prog X.w X.K X.mg X.base CX k C m sp dvs) (hr : RoomG j X.A) (hk : k ≤ j) (hx : Passes CX X E) (he : PE X o ta)
    (ht : eval (.Call (.Attribute o m apos) [] [] pos) X.env = (do
      let ov ← eval o X.env
      standAt apos.atName
      let (f, first) ← holding [ov] (getMethod ov m pl)
      callWith pos f first (backTo pos (starEach [] X.env)) (backToKw pos (keywordEach [] X.env))) := by rfl) :
    PE X (.Call (.Attribute o m apos) [] [] pos) (tMeth C m sp dvs E ta tNil) := by
  obtain ⟨f, fd, ps, ds, hc, hm, F, b, d⟩ := c.ex
  exact g_pe_meth0 (pl := pl) he hc hm F (hr.mono hk) b d hx ht
end
section
open PySem PySem.W PySem.Calls PyProof.Rows
set_option maxRecDepth 100000 in
open PySem PySem.Spec PyProof.Rows L2 in
set_option maxHeartbeats 0 in
theorem early (S : PySem.W.Frag → Sp) (ask : ∀ (K : PySem.W.Frag), YHd.ex K = true → ∀ (H : L2.Hp) (a : Addr) (ns : List Int), ns.length ≤ 63 → Only H → L2.SqL K H a (ns.map L2.V.int) → S K [.ref a] H (fun v _ => v = .bl true) fun _ _ _ => False)
    (facts : ∀ {P : Program} {w : World} {K : PySem.W.Frag} {h : Heap} {mg : PySem.Str → Option Value} {f : Addr}, K.In h → h.Ns mainGlobals mg → mg ("law" : PySem.Str) = some (.ref f) → He.SaysD YHd.fa YHd.fn K → ∃ fd : FuncData, (∀ (s : Shared) (v : Value), BindsTo s fd ⟨[v], []⟩ [("_law_script", v)]) ∧ ∀ base : Heap, K.In base → base.Ns mainGlobals mg → FnG P w K mg base L2.CX0 8 f fd ["_law_script"] (S K)) : PySem.Challenge.rw_stayprice_k22_texts_of_no_rule.Holds := by
  w_on; o_law
  refine HandSHeadRun.head_any (r := OpenLaw.row PySem.Challenge.rw_stayprice_k22_texts_of_no_rule) (q := view (OpenLaw.row PySem.Challenge.rw_stayprice_k22_texts_of_no_rule).prog [43]) (H := YHd.hk) (ob := YHd.ob) (M := 6000) (loose := YHd.loose) (d := HandSHeadRun.topDef (OpenLaw.row PySem.Challenge.rw_stayprice_k22_texts_of_no_rule).prog 43) (kwd := []) YHd.ob_eq
    (by kernel_rfl) (fun s => by kernel_rfl) YHd.run (by kernel_rfl) (by kernel_rfl) (by kernel_rfl) (by rfl) (by first | assumption | decide +kernel) (by decide +kernel) ⟨rfl, rfl, rfl, rfl, rfl, by decide +kernel⟩ ?hw ?hc
  case hw => w_witness2
  case hc =>
    refine Y.g_walk (l := PySem.Challenge.rw_stayprice_k22_texts_of_no_rule) (n := 63) (k := 8) (x := "_law_script") (CX := L2.CX0) rfl (by decide) (by kernel_rfl) ⟨rfl, by decide, by decide⟩ ?F (fun _ _ _ _ z => z)
    intro w mg fa h Y G hmg0
    obtain ⟨K, KX, c⟩ := Y
    have hmg : mg ("law" : PySem.Str) = some (.ref fa) := by
      have e : (HandSHeadRun.topDef (OpenLaw.row PySem.Challenge.rw_stayprice_k22_texts_of_no_rule).prog 43).name = ("law" : PySem.Str) := by kernel_rfl
      rw [← e]
      exact hmg0
    obtain ⟨fd, hb, hF⟩ := facts (P := (PySem.Challenge.rw_stayprice_k22_texts_of_no_rule).prog) (w := w) KX G hmg c.1
    exact ⟨K, fd, S K, KX, hb, fun H a ns hl ho hS => ask K c.2 H a ns hl ho hS, hF⟩
end
/-! YD: data (lists, tuples, numbers, truths, texts, None) and their ==. -/
open PySem PySem.Spec PyProof.Rows L2
mutual
theorem eqv_same : ∀ d : PyData, d.canLay0 = true → PyData.eqv d d = true
  | .none, _ => rfl
  | .bool b, _ => by simp [PyData.eqv]
  | .int i, _ => by simp [PyData.eqv]
  | .str x, _ => by simp [PyData.eqv]
  | .list xs, h => by rw [PyData.eqv]; exact eqv_sameAll xs (by simpa [PyData.canLay0] using h)
  | .tuple xs, h => by rw [PyData.eqv]; exact eqv_sameAll xs (by simpa [PyData.canLay0] using h)
  | .dict _, h => by simp [PyData.canLay0] at h
theorem eqv_sameAll : ∀ xs : List PyData, PyData.canLayAll0 xs = true → PyData.eqvAll xs xs = true
  | [], _ => rfl
  | x :: xs, h => by
    have h' : x.canLay0 = true ∧ PyData.canLayAll0 xs = true := by simpa [PyData.canLayAll0] using h
    rw [PyData.eqvAll, eqv_same x h'.1, eqv_sameAll xs h'.2]; rfl
end
theorem shaped_of {d : PyData} (h : d.canLay0 = true) (k : d.depth ≤ 64) : SeqAt.shaped d = true := by
  unfold SeqAt.shaped
  rw [h, decide_eq_true k]; rfl
theorem canLay_all {xs : List PyData} (h : ∀ x ∈ xs, x.canLay0 = true) : PyData.canLayAll0 xs = true := by
  induction xs with
  | nil => rfl
  | cons x r ih => rw [PyData.canLayAll0, h x (by simp), ih fun y hy => h y (by simp [hy])]; rfl
theorem depth_all {xs : List PyData} {n : Nat} (h : ∀ x ∈ xs, x.depth ≤ n) : PyData.depthAll xs ≤ n := by
  induction xs with
  | nil => exact Nat.zero_le _
  | cons x r ih =>
    rw [PyData.depthAll]
    exact Nat.max_le.mpr ⟨h x (by simp), ih fun y hy => h y (by simp [hy])⟩
/-- data that stand at most so deep -/
def Sh (n : Nat) (d : PyData) : Prop := d.canLay0 = true ∧ d.depth ≤ n
theorem Sh.ok {n : Nat} {d : PyData} (h : Sh n d) (k : n ≤ 64) : SeqAt.shaped d = true := shaped_of h.1 (Nat.le_trans h.2 k)
theorem sh_int (i : Int) (n : Nat) : Sh n (.int i) := ⟨by simp [PyData.canLay0], by simp [PyData.depth]⟩
theorem sh_bl (b : Bool) (n : Nat) : Sh n (.bool b) := ⟨by simp [PyData.canLay0], by simp [PyData.depth]⟩
theorem sh_non (n : Nat) : Sh n .none := ⟨by simp [PyData.canLay0], by simp [PyData.depth]⟩
theorem sh_str {x : Str} (h : PyData.strOk x = true) (n : Nat) : Sh n (.str x) := ⟨by simpa [PyData.canLay0] using h, by simp [PyData.depth]⟩
theorem sh_lst {n : Nat} {xs : List PyData} (h : ∀ x ∈ xs, Sh n x) : Sh (n + 1) (.list xs) :=
  ⟨by rw [PyData.canLay0]; exact canLay_all fun x hx => (h x hx).1, by rw [PyData.depth]; exact Nat.succ_le_succ (depth_all fun x hx => (h x hx).2)⟩
theorem sh_tup {n : Nat} {xs : List PyData} (h : ∀ x ∈ xs, Sh n x) : Sh (n + 1) (.tuple xs) :=
  ⟨by rw [PyData.canLay0]; exact canLay_all fun x hx => (h x hx).1, by rw [PyData.depth]; exact Nat.succ_le_succ (depth_all fun x hx => (h x hx).2)⟩
/-! ### lists of whole numbers, of truths -/
section
variable {K : PySem.W.Frag} {H : Hp} {Q : VK} {p q : Addr} {ns ms : List Int} {x y : V} {d e : PyData} {n : Nat}
/-- alike data -/
theorem g_eqD_same (h : Dp K H x d) (h' : Dp K H y d) (s : Sh n d) (hn : n ≤ 64) (k : Q (.bl true) H) : rEqD K x y H Q :=
  ⟨d, d, h, h', s.ok hn, s.ok hn, by rw [eqv_same d s.1]; exact k⟩
end
/-- the days from c to ahead of g -/
def days (c g : Int) : List Int := (List.range (g - c).toNat).map fun i : Nat => c + (i : Int)
/-! YM: lists of stretches, their days, the one rising list of few stretches. -/
open PySem
abbrev Pr : Type := Int × Int
def hasD (ts : List Pr) (d : Int) : Bool := ts.any fun p => decide (p.1 ≤ d) && decide (d ≤ p.2)
/-- each is none of the wrong way round -/
def Up (ts : List Pr) : Prop := ∀ p ∈ ts, p.1 ≤ p.2
/-- rising, a day between each two -/
structure Can (ts : List Pr) : Prop where
  up : Up ts
  gap : ts.Pairwise fun p q => p.2 + 1 < q.1
theorem Can.nil : Can [] := ⟨fun p hp => by simp at hp, List.Pairwise.nil⟩
/-- one turn of the spreading: the last stretch ahead is made longer, or a new one is laid -/
def sprTurn (F : List Pr) (p : Pr) : List Pr := match F.getLast? with
  | some l => if p.1 ≤ l.2 + 1 then F.dropLast ++ [(l.1, max l.2 p.2)] else F ++ [p]
  | none => [p]
/-- what holds between the turns: F is rising, each of its stretches begins no later than what comes -/
structure SprIn (F : List Pr) (seen : List Pr) : Prop where
  can : Can F
  days : ∀ d, hasD F d = hasD seen d
  low : ∀ q ∈ F, ∃ r ∈ seen, q.1 = r.1
theorem SprIn.nil : SprIn [] [] := ⟨Can.nil, fun _ => rfl, fun q hq => by simp at hq⟩
/-- what one stretch lacks of another -/
def wo (p q : Pr) : List Pr := (if p.1 < q.1 then [(p.1, min p.2 (q.1 - 1))] else []) ++ if q.2 < p.2 then [(max p.1 (q.2 + 1), p.2)] else []
def OkD (p : Pr) : Prop := 0 ≤ p.1 ∧ p.1 ≤ p.2 ∧ p.2 ≤ 1000000
/-! YT: the law's tape in the heap; tuples that stay. -/
open PySem PySem.Spec PyProof.Rows L2
/-- a row of draws at t: a great number's rest, a stream's last number (the places b and s are t) -/
def Tape (H : Hp) (t b s : Addr) : Prop := t = b ∧ t = s ∧ ∃ a c : Int, H t = some (.lst [.int a, .int c]) ∧ 0 ≤ a ∧ 0 ≤ c ∧ c < 2147483648
theorem tape_lst {H : Hp} {t b s : Addr} (T : Tape H t b s) : (∃ xs, H t = some (.lst xs)) ∧ ∃ xs, H b = some (.lst xs) := by
  obtain ⟨rfl, rfl, a, c, h, -⟩ := T
  exact ⟨⟨_, h⟩, ⟨_, h⟩⟩
theorem log9 {m : Int} (h0 : 0 < m) (h : m < 2 ^ 250) : m.natAbs.log2 < 9000 :=
  Nat.lt_trans (PySem.Flt.log2_lt_of (k := 250) (by decide) (by
    have e : (m.natAbs : Int) = m := by omega
    have h2 : (m.natAbs : Int) < ((2 ^ 250 : Nat) : Int) := by rw [e]; exact h
    exact Int.ofNat_lt.mp h2)) (by decide)
theorem ni_tape {H : Hp} {t b s p : Addr} (hp : Fr H p) (T : Tape H t b s) : p ∉ [t, b] := by
  replace hp : H p = none := hp
  obtain ⟨⟨_, h1⟩, _, h2⟩ := tape_lst T
  intro h
  rcases List.mem_cons.mp h with e | h
  · rw [e, h1] at hp; cases hp
  · rw [List.mem_singleton.mp h, h2] at hp; cases hp
theorem tape_same {H H' : Hp} {t b s : Addr} (e : Same H H') (T : Tape H t b s) : Tape H' t b s := by
  obtain ⟨n1, n2, a, c, h, z⟩ := T
  exact ⟨n1, n2, a, c, e _ _ h, z⟩
theorem tape_new {H : Hp} {t b s p : Addr} {o : HO} (hp : Fr H p) (T : Tape H t b s) : Tape (upd H p o) t b s := tape_same (same_new hp) T
theorem tape_own {H H0 : Hp} {t b s p : Addr} {o : HO} (hp : Fr H0 p) (T0 : Tape H0 t b s) (T : Tape H t b s) : Tape (upd H p o) t b s := by
  obtain ⟨n1, n2, a, c, h, z⟩ := T
  obtain ⟨_, _, _, _, k, _⟩ := T0
  exact ⟨n1, n2, a, c, at_ne (ne_of_none k hp) h, z⟩
/-- the tuples stay -/
def Tk (H H' : Hp) : Prop := ∀ a xs, H a = some (.tup xs) → H' a = some (.tup xs)
theorem Tk.trans {H H1 H2 : Hp} (a : Tk H H1) (b : Tk H1 H2) : Tk H H2 := fun c xs h => b c xs (a c xs h)
theorem Same.tk {H H' : Hp} (e : Same H H') : Tk H H' := fun a xs h => e _ _ h
theorem tk_new {H : Hp} {p : Addr} {o : HO} (h : Fr H p) : Tk H (upd H p o) := Same.tk (same_new h)
theorem tk_put {H : Hp} {p : Addr} {o : HO} {zs : List V} (h : H p = some (.lst zs)) : Tk H (upd H p o) := fun a xs e => at_ne (fun z => by rw [z, h] at e; cases e) e
theorem tk_kp {H H' : Hp} {t b s : Addr} (T : Tape H t b s) (k : Kp [t, b] H H') : Tk H H' := fun a xs e => k a _ e fun m => by
  obtain ⟨⟨_, h1⟩, _, h2⟩ := tape_lst T
  rcases List.mem_cons.mp m with z | m
  · rw [z, h1] at e; cases e
  · rw [List.mem_singleton.mp m, h2] at e; cases e
theorem at_tk {H H' : Hp} {t b s a : Addr} {xs : List V} (k : Kp [t, b] H H') (T : Tape H t b s) (h : H a = some (.tup xs)) : H' a = some (.tup xs) := tk_kp T k a xs h
theorem g_pk2 {K : PySem.W.Frag} {H : Hp} {Q : VK} {p : Addr} {xs : List V} {a b w : Int} (h : H p = some (.lst xs)) (hxs : xs = [.int a, .int b]) (h0 : 0 ≤ w) (h1 : w < 2) (q : ∀ v : Int, v = a ∨ v = b → Q (.int v) H) : rIxL K (.ref p) (.int w) H Q := by
  subst hxs
  exact g_pick2 (SqL.of h) h0 h1 q
theorem g_pk4 {K : PySem.W.Frag} {H : Hp} {Q : VK} {p : Addr} {xs : List V} {a b c d w : Int} (h : H p = some (.lst xs)) (hxs : xs = [.int a, .int b, .int c, .int d]) (h0 : 0 ≤ w) (h1 : w < 4) (q : ∀ v : Int, v = a ∨ v = b ∨ v = c ∨ v = d → Q (.int v) H) : rIxL K (.ref p) (.int w) H Q := by
  subst hxs
  exact g_pick4 (SqL.of h) h0 h1 q
theorem g_pk5 {K : PySem.W.Frag} {H : Hp} {Q : VK} {p : Addr} {xs : List V} {a b c d e w : Int} (h : H p = some (.lst xs)) (hxs : xs = [.int a, .int b, .int c, .int d, .int e]) (h0 : 0 ≤ w) (h1 : w < 5) (q : ∀ v : Int, v = a ∨ v = b ∨ v = c ∨ v = d ∨ v = e → Q (.int v) H) : rIxL K (.ref p) (.int w) H Q := by
  subst hxs
  exact g_pick5 (SqL.of h) h0 h1 q
/-! YP: pairs of whole numbers in the heap; comprehensions that make nothing but their list. -/
open PySem PySem.Spec PyProof.Rows L2
/-- v is a tuple of the pair p -/
def PrAt (G : Hp) (v : V) (p : Pr) : Prop := ∃ t, v = .ref t ∧ G t = some (.tup [.int p.1, .int p.2])
abbrev PrsAt (G : Hp) : List V → List Pr → Prop := Paired (PrAt G)
theorem Paired.app {α β : Type} {F : α → β → Prop} : ∀ {as : List α} {bs : List β} {cs : List α} {ds : List β}, Paired F as bs → Paired F cs ds → Paired F (as ++ cs) (bs ++ ds)
  | _, _, _, _, .nil, h => h
  | _, _, _, _, .cons r t, h => .cons r (Paired.app t h)
/-- the pair that stands at a value -/
def kOf (G : Hp) : V → Pr
  | .ref t => match G t with
    | some (.tup [.int i, .int j]) => (i, j)
    | _ => (0, 0)
  | _ => (0, 0)
/-! ### as data -/
def prD (p : Pr) : PyData := .tuple [.int p.1, .int p.2]
section
variable {K : PySem.W.Frag} {H : Hp} {Q : VK} {p q : Addr} {xs ys : List V} {ts us : List Pr}
end
theorem jn {t u : TS} {D : Ends} {σ : L2.St} {H : Hp} (P : L2.St → Hp → Prop) (k : ∀ σ H, P σ H → u D σ H) (h : ∀ N : L2.St → Hp → Prop, (∀ σ H, P σ H → N σ H) → t { D with nx := N } σ H) : tSeq t u D σ H := h (u D) k
theorem mxi (i j : Int) : (if j > i then j else i) = max i j := by
  split <;> omega
theorem mni (i j : Int) : (if j < i then j else i) = min i j := by
  split <;> omega
/-! ### comprehensions that make nothing but their list -/
/-! ### comprehensions whose parts may make new things -/
theorem lc_w {J : It} {n : Nat} {G : Hp → Prop} {Y : Nat → Hp → V → Hp → Prop} (w : Walk J n G Y) {g : TG} {tt : TT} {te : TE} {vs : List Nat} {σ : L2.St} {H1 : Hp} {Qf : Addr → Hp → Prop} (f : Nat → Option V) (hn : n < 100000) (hG : ∀ H, Same H1 H → G H)
    (hs : ∀ (D : Addr) i x H H' (N : Hp → Prop), Fr H1 D → i < n → Same H1 H → Y i H x H' → (∀ y H4, f i = some y → Same H H4 → ∃ acc, H4 D = some (.lst acc) ∧ acc.length < sizeLine ∧ N (upd H4 D (.lst (acc ++ [y])))) → (∀ H4, f i = none → Same H H4 → N H4) →
      g x (wipe σ vs) H' fun σ2 H2 => wipe σ2 vs = wipe σ vs ∧ tt σ2 H2 fun b H3 =>
        if b = true then te σ2 H3 fun y H4 => ∃ acc, H4 D = some (.lst acc) ∧ acc.length < sizeLine ∧ N (upd H4 D (.lst (acc ++ [y]))) else N H3)
    (hd : ∀ D H', Fr H1 D → Same H1 H' → H' D = some (.lst ((List.range n).filterMap f)) → Qf D H') :
    ∀ D, Fr H1 D → ∃ W : Nat → Nat → Hp → Prop, (∃ m, W 0 m (upd H1 D (.lst []))) ∧ ∀ i m H, W i m H →
      (J.stop i H ∧ Qf D H) ∨ (J.go i H ∧ ∃ Nx : Hp → Prop, (∀ H', Nx H' → ∃ m', m' < m ∧ W (i + 1) m' H') ∧ ∀ x H', J.yld i H x H' → g x (wipe σ vs) H' fun σ2 H2 => wipe σ2 vs = wipe σ vs ∧ tt σ2 H2 fun b H3 =>
        if b = true then te σ2 H3 fun y H4 => ∃ acc, H4 D = some (.lst acc) ∧ acc.length < sizeLine ∧ Nx (upd H4 D (.lst (acc ++ [y]))) else Nx H3) := fun D hD => by
  refine lc_it w (fun i H => Same H1 H ∧ H D = some (.lst ((List.range i).filterMap f))) ⟨same_new hD, upd_same⟩ (fun i H _ h => hG H h.1) (fun i x H H' hi h y => ?_) fun H h => hd D H hD h.1 h.2
  have hlen : ((List.range i).filterMap f).length ≤ i := Nat.le_trans (List.length_filterMap_le ..) (by rw [List.length_range]; omega)
  refine hs D i x H H' _ hD hi h.1 y (fun y H4 hy s => ⟨_, s _ _ h.2, by rw [sizeLine_eq]; omega, sm_own hD (h.1.trans s), ?_⟩) fun H4 hy s => ⟨h.1.trans s, ?_⟩
  · rw [upd_same, List.range_succ, List.filterMap_append]
    simp [hy]
  · rw [s _ _ h.2, List.range_succ, List.filterMap_append]
    simp [hy]
theorem range_flt' {α β : Type} (xs : List α) (g : α → Option β) (n : Nat) : (List.range n).filterMap (fun i => (xs[i]?).bind g) = (xs.take n).filterMap g := by
  induction n with
  | zero => simp
  | succ n ih =>
    rw [List.range_succ, List.filterMap_append, ih, List.take_add_one, List.filterMap_append]
    congr 1
    cases e : xs[n]? with
    | none => simp [e]
    | some x => cases e2 : g x <;> simp [e, e2]
theorem range_flt {α β : Type} (xs : List α) (g : α → Option β) : (List.range xs.length).filterMap (fun i => (xs[i]?).bind g) = xs.filterMap g := by
  rw [range_flt', List.take_length]
/-! Y1 (second family): a row of draws, its draws. -/
open PySem PySem.Spec PyProof.Rows L2
def sp_Ltake (K : PySem.W.Frag) : Sp := Sp2 fun x y H Q E => ∃ (t b s : Addr) (m : Int), x = .ref t ∧ y = .int m ∧ Tape H t b s ∧ 0 < m ∧ m.natAbs.log2 < 9000 ∧
  ∀ (v : Int) (H' : Hp), 0 ≤ v → v < m → Tape H' t b s → Kp [t, b] H H' → Q (.int v) H'
theorem g_take {K : PySem.W.Frag} {t b s : Addr} {m : Int} {H : Hp} {Q : VK} {E : XK} (T : Tape H t b s) (h0 : 0 < m) (h9 : m < 2 ^ 250) (q : ∀ (v : Int) (H' : Hp), 0 ≤ v → v < m → Tape H' t b s → Kp [t, b] H H' → Q (.int v) H') : sp_Ltake K ([.ref t, .int m] ++ []) H Q E :=
  ⟨_, _, rfl, t, b, s, m, rfl, rfl, T, h0, log9 h0 h9, q⟩
def sp_Lbegin (K : PySem.W.Frag) : Sp := Sp1 fun x H Q E => ∃ c : Int, x = .int c ∧ ∀ (t : Addr) (H' : Hp), Same H H' → Fr H t → Tape H' t t t → Q (.ref t) H'
theorem g_begin {K : PySem.W.Frag} {c : Int} {H : Hp} {Q : VK} {E : XK} (q : ∀ (t : Addr) (H' : Hp), Same H H' → Fr H t → Tape H' t t t → Q (.ref t) H') : sp_Lbegin K ([.int c] ++ []) H Q E := ⟨_, rfl, c, rfl, q⟩
def sp_Lcell_at (K : PySem.W.Frag) : Sp := Sp2 fun x y H Q E => ∃ (a : Addr) (ns : List Int) (i : Nat), x = .ref a ∧ y = .int (i : Nat) ∧ SqL K H a (ns.map V.int) ∧ ∀ c : Int, Q (.int c) H
/-! steps: a heap's facts (at), a list's or tuple's (sq), side questions (sd), one step (s1), many (ss) -/
local macro_rules | `(tactic| walk_at "tp") => `(tactic| first
  | with_reducible assumption
  | ((with_reducible refine' $(Lean.mkIdent `Y.tape_new) ?n0 ?n1); (case n0 => with_reducible assumption); (case n1 => walk_at "tp"))
  | ((with_reducible refine' $(Lean.mkIdent `Y.tape_same) ?n0 ?n1); (case n0 => with_reducible assumption); (case n1 => walk_at "tp"))
  | ((with_reducible refine' $(Lean.mkIdent `Y.tape_own) ?n0 ?n1 ?n2); (case n0 => with_reducible assumption); (case n1 => walk_at "tp"); (case n2 => walk_at "tp"))
  | fail)
local macro_rules | `(tactic| walk_at "ni") => `(tactic| first
  | with_reducible assumption
  | ((with_reducible refine' $(Lean.mkIdent `Y.ni_tape) ?n0 ?n1); (case n0 => with_reducible assumption); (case n1 => walk_at "tp"))
  | fail)
local macro_rules | `(tactic| walk_at "at0") => `(tactic| first
  | with_reducible assumption
  | with_reducible exact upd_same
  | ((with_reducible refine' $(Lean.mkIdent `Y.at_new) ?n0 ?n1); (case n0 => with_reducible assumption); (case n1 => walk_at "at0"))
  | ((with_reducible refine' $(Lean.mkIdent `Y.get_kp) ?n0 ?n1 ?n2); (case n0 => with_reducible assumption); (case n1 => walk_at "at0"); (case n2 => walk_at "ni"))
  | fail)
local macro_rules | `(tactic| walk_at "ne") => `(tactic| first
  | assumption
  | exact Ne.symm (by assumption)
  | fail)
local macro_rules | `(tactic| walk_at "sm") => `(tactic| first
  | with_reducible assumption
  | with_reducible exact Same.refl _
  | ((with_reducible refine' $(Lean.mkIdent `Y.sm_new) ?n0 ?n1); (case n0 => with_reducible assumption); (case n1 => walk_at "sm"))
  | ((with_reducible refine' $(Lean.mkIdent `Y.sm_own) ?n0 ?n1); (case n0 => with_reducible assumption); (case n1 => walk_at "sm"))
  | ((with_reducible refine' $(Lean.mkIdent `Y.sm_tr) ?n0 ?n1); (case n0 => with_reducible assumption); (case n1 => walk_at "sm"))
  | fail)
local macro_rules | `(tactic| walk_at "kp") => `(tactic| first
  | with_reducible assumption
  | with_reducible exact $(Lean.mkIdent `Y.Kp.refl) _ _
  | ((with_reducible refine' $(Lean.mkIdent `Y.kp_own) ?n0 ?n1); (case n0 => with_reducible assumption); (case n1 => walk_at "kp"))
  | ((with_reducible refine' $(Lean.mkIdent `Y.kp_new) ?n0 ?n1); (case n0 => with_reducible assumption); (case n1 => walk_at "kp"))
  | ((with_reducible refine' $(Lean.mkIdent `Y.kp_tr) ?n0 ?n1); (case n0 => with_reducible assumption); (case n1 => walk_at "kp"))
  | fail)
local macro_rules | `(tactic| walk_at "fr") => `(tactic| first
  | with_reducible assumption
  | fail)
local macro_rules | `(tactic| walk_at "at") => `(tactic| first
  | with_reducible assumption
  | with_reducible exact upd_same
  | ((with_reducible refine' $(Lean.mkIdent `Y.at_new) ?n0 ?n1); (case n0 => with_reducible assumption); (case n1 => walk_at "at"))
  | ((with_reducible refine' $(Lean.mkIdent `Y.at_ne) ?n0 ?n1); (case n0 => walk_at "ne"); (case n1 => walk_at "at"))
  | ((with_reducible refine' $(Lean.mkIdent `Y.get_kp) ?n0 ?n1 ?n2); (case n0 => with_reducible assumption); (case n1 => walk_at "at"); (case n2 => walk_at "ni"))
  | ((with_reducible refine' $(Lean.mkIdent `Y.at_tk) ?n0 ?n1 ?n2); (case n0 => with_reducible assumption); (case n1 => walk_at "tp"); (case n2 => walk_at "at"))
  | fail)
local macro_rules | `(tactic| walk_at "tk") => `(tactic| first
  | with_reducible assumption
  | with_reducible exact $(Lean.mkIdent `Y.Tk.refl) _
  | fail)
local macro_rules | `(tactic| walk_at "pr") => `(tactic| first
  | with_reducible assumption
  | fail)
local macro_rules | `(tactic| walk_at "prs") => `(tactic| first
  | with_reducible assumption
  | fail)
local macro_rules | `(tactic| walk_at "ad") => `(tactic| first
  | with_reducible assumption
  | with_reducible exact $(Lean.mkIdent `Y.At.int) _
  | with_reducible exact $(Lean.mkIdent `Y.At.str) _
  | with_reducible exact $(Lean.mkIdent `Y.At.bl) _
  | with_reducible exact $(Lean.mkIdent `Y.At.non)
  | ((with_reducible refine' $(Lean.mkIdent `Y.Td.at0) ?n0); (case n0 => walk_at "td"))
  | ((with_reducible refine' $(Lean.mkIdent `Y.at_tup0) ?n0 ?n1); (case n0 => walk_at "at"); (case n1 => walk_at "ads"))
  | ((with_reducible refine' $(Lean.mkIdent `Y.at_lst0) ?n0 ?n1); (case n0 => walk_at "at"); (case n1 => walk_at "ads"))
  | ((with_reducible refine' $(Lean.mkIdent `Y.at_new') ?n0 ?n1); (case n0 => with_reducible assumption); (case n1 => walk_at "ad"))
  | ((with_reducible refine' $(Lean.mkIdent `Y.At.same) ?n0 ?n1); (case n0 => with_reducible assumption); (case n1 => walk_at "ad"))
  | fail)
local macro_rules | `(tactic| walk_at "ads") => `(tactic| first
  | with_reducible assumption
  | with_reducible exact $(Lean.mkIdent `Y.Ats.nil)
  | ((with_reducible refine' $(Lean.mkIdent `Y.Ats.cons) ?n0 ?n1); (case n0 => walk_at "ad"); (case n1 => walk_at "ads"))
  | fail)
local macro_rules | `(tactic| walk_at "td") => `(tactic| first
  | with_reducible assumption
  | with_reducible exact $(Lean.mkIdent `Y.Td.int) _
  | with_reducible exact $(Lean.mkIdent `Y.Td.str) _
  | with_reducible exact $(Lean.mkIdent `Y.Td.bl) _
  | with_reducible exact $(Lean.mkIdent `Y.Td.non)
  | ((with_reducible refine' $(Lean.mkIdent `Y.td_tup) ?n0 ?n1); (case n0 => walk_at "at"); (case n1 => walk_at "tds"))
  | ((with_reducible refine' $(Lean.mkIdent `Y.td_new) ?n0 ?n1); (case n0 => with_reducible assumption); (case n1 => walk_at "td"))
  | ((with_reducible refine' $(Lean.mkIdent `Y.td_same) ?n0 ?n1); (case n0 => with_reducible assumption); (case n1 => walk_at "td"))
  | fail)
local macro_rules | `(tactic| walk_at "tds") => `(tactic| first
  | with_reducible assumption
  | with_reducible exact $(Lean.mkIdent `Y.Tds.nil)
  | fail)
local macro_rules | `(tactic| walk_at "ins") => `(tactic| first
  | with_reducible assumption
  | fail)
local macro_rules | `(tactic| walk_at "bk") => `(tactic| first
  | with_reducible assumption
  | fail)
local macro_rules | `(tactic| walk_at "wd") => `(tactic| first
  | fail)
local macro_rules | `(tactic| walk_at "rt") => `(tactic| first
  | with_reducible assumption
  | fail)
local macro_rules | `(tactic| walk_at "ru") => `(tactic| first
  | with_reducible assumption
  | fail)
local macro_rules | `(tactic| walk_at "gd") => `(tactic| first
  | with_reducible assumption
  | fail)
local macro_rules | `(tactic| walk_at "up") => `(tactic| first
  | with_reducible assumption
  | ((with_reducible refine' $(Lean.mkIdent `Y.Can.up) ?n0); (case n0 => with_reducible assumption))
  | fail)
local macro_rules | `(tactic| walk_at "sq") => `(tactic| first
  | assumption
  | (refine' SqL.of ?n0; (case n0 => walk_at "at"))
  | (refine' SqT.of ?n0; (case n0 => walk_at "at"))
  | ((with_reducible refine' $(Lean.mkIdent `Y.sql_new) ?n0 ?n1); (case n0 => with_reducible assumption); (case n1 => walk_at "sq"))
  | ((with_reducible refine' $(Lean.mkIdent `Y.sq_or) ?n0); (case n0 => walk_at "at"))
  | ((with_reducible refine' $(Lean.mkIdent `Y.sq_orT) ?n0); (case n0 => walk_at "at"))
  | ((with_reducible refine' Or.inl ?n0); (case n0 => walk_at "sq"))
  | ((with_reducible refine' Or.inr ?n0); (case n0 => walk_at "sq"))
  | fail)
local macro_rules | `(tactic| walk_at "dp") => `(tactic| first
  | assumption
  | exact Dp.int _
  | exact Dp.str _
  | exact Dp.bl _
  | exact Dp.non
  | (refine' Dp.tup ?s0 ?a0; (case s0 => walk_at "sq"); (case a0 => walk_at "dpa"))
  | (refine' Dp.lst ?s0 ?a0; (case s0 => walk_at "sq"); (case a0 => walk_at "dpa"))
  | fail)
local macro_rules | `(tactic| walk_at "dpa") => `(tactic| first
  | exact DpAll.nil
  | (refine' DpAll.cons ?a0 ?b0; (case a0 => walk_at "dp"); (case b0 => walk_at "dpa"))
  | fail)
local macro_rules | `(tactic| walk_at "sh") => `(tactic| first
  | assumption
  | exact ⟨by simp [PyData.canLay0, PyData.canLayAll0], by simp [PyData.depth, PyData.depthAll]⟩
  | fail)
local macro_rules | `(tactic| walk_at "sd") => `(tactic| ((try dsimp only); first
  | omega
  | assumption
  | exact rfl
  | decide
  | exact Or.inl ⟨by omega, by omega⟩
  | exact Or.inr ⟨by omega, by omega⟩
  | exact ⟨by first | assumption | omega | decide, by first | assumption | omega | decide⟩
  | exact ⟨by decide, by decide, by decide⟩
  | exact ⟨by omega, $(Lean.mkIdent `Y.log9) (by omega) (by omega)⟩
  | (simp only [List.length_map, List.length_append, List.length_cons, List.length_nil, List.length_singleton, List.length_reverse, List.length_take, List.length_drop, sizeLine_eq]; omega)
  | fail))
local macro_rules | `(tactic| walk_at "sd3") => `(tactic| first
  | assumption
  | exact ⟨by omega, by omega, by omega⟩)
local macro_rules | `(tactic| walk_at "sd4") => `(tactic| first
  | assumption
  | exact ⟨by omega, by omega, by omega, by omega⟩)
local macro_rules | `(tactic| walk_at "rf") => `(tactic| exact rfl)
local macro_rules | `(tactic| walk_at "ai") => `(tactic| first
  | assumption
  | ((with_reducible refine' $(Lean.mkIdent `Y.at_k0) ?r); (case r => exact rfl))
  | ((with_reducible refine' $(Lean.mkIdent `Y.at_k1) ?r); (case r => exact rfl))
  | ((with_reducible refine' $(Lean.mkIdent `Y.at_k2) ?r); (case r => exact rfl))
  | ((with_reducible refine' $(Lean.mkIdent `Y.at_k3) ?r); (case r => exact rfl))
  | ((with_reducible refine' $(Lean.mkIdent `Y.ix_k0) ?r); (case r => walk_at "sd"))
  | ((with_reducible refine' $(Lean.mkIdent `Y.ix_k1) ?r); (case r => walk_at "sd"))
  | fail)
local macro_rules | `(tactic| walk_at "isi") => `(tactic| first
  | (with_reducible refine $(Lean.mkIdent `Y.g_isi_int_int) ?_)
  | (with_reducible refine $(Lean.mkIdent `Y.g_isi_int_bool) ?_)
  | (with_reducible refine $(Lean.mkIdent `Y.g_isi_int_str) ?_)
  | (with_reducible refine $(Lean.mkIdent `Y.g_isi_int_tuple) ?_)
  | (with_reducible refine $(Lean.mkIdent `Y.g_isi_bl_int) ?_)
  | (with_reducible refine $(Lean.mkIdent `Y.g_isi_bl_bool) ?_)
  | (with_reducible refine $(Lean.mkIdent `Y.g_isi_bl_str) ?_)
  | (with_reducible refine $(Lean.mkIdent `Y.g_isi_bl_tuple) ?_)
  | (with_reducible refine $(Lean.mkIdent `Y.g_isi_str_int) ?_)
  | (with_reducible refine $(Lean.mkIdent `Y.g_isi_str_bool) ?_)
  | (with_reducible refine $(Lean.mkIdent `Y.g_isi_str_str) ?_)
  | (with_reducible refine $(Lean.mkIdent `Y.g_isi_str_tuple) ?_)
  | (with_reducible refine $(Lean.mkIdent `Y.g_isi_non_int) ?_)
  | (with_reducible refine $(Lean.mkIdent `Y.g_isi_non_bool) ?_)
  | (with_reducible refine $(Lean.mkIdent `Y.g_isi_non_str) ?_)
  | (with_reducible refine $(Lean.mkIdent `Y.g_isi_non_tuple) ?_)
  | ((with_reducible refine' $(Lean.mkIdent `Y.g_isi_lst_int) ?h ?_); (case h => walk_at "at"))
  | ((with_reducible refine' $(Lean.mkIdent `Y.g_isi_lst_bool) ?h ?_); (case h => walk_at "at"))
  | ((with_reducible refine' $(Lean.mkIdent `Y.g_isi_lst_str) ?h ?_); (case h => walk_at "at"))
  | ((with_reducible refine' $(Lean.mkIdent `Y.g_isi_lst_tuple) ?h ?_); (case h => walk_at "at"))
  | ((with_reducible refine' $(Lean.mkIdent `Y.g_isi_tup_int) ?h ?_); (case h => walk_at "at"))
  | ((with_reducible refine' $(Lean.mkIdent `Y.g_isi_tup_bool) ?h ?_); (case h => walk_at "at"))
  | ((with_reducible refine' $(Lean.mkIdent `Y.g_isi_tup_str) ?h ?_); (case h => walk_at "at"))
  | ((with_reducible refine' $(Lean.mkIdent `Y.g_isi_tup_tuple) ?h ?_); (case h => walk_at "at"))
  | fail)
local macro_rules | `(tactic| walk_at "xa") => `(tactic| first
  | with_reducible assumption
  | fail)
local macro_rules | `(tactic| walk_at "dc") => `(tactic| first
  | with_reducible assumption
  | fail)
local macro_rules | `(tactic| walk_at "s1") => `(tactic| first
  | ((with_reducible refine' $(Lean.mkIdent `Y.g_var) ?h ?_); (case h => exact rfl))
  | (with_reducible refine $(Lean.mkIdent `Y.g_c) ?_)
  | (with_reducible refine $(Lean.mkIdent `Y.g_op) ?_)
  | (with_reducible refine $(Lean.mkIdent `Y.g_cons) ?_)
  | (with_reducible refine $(Lean.mkIdent `Y.g_nil) ?_)
  | (with_reducible refine $(Lean.mkIdent `Y.g_test) ?_)
  | (with_reducible refine $(Lean.mkIdent `Y.g_cb) ?_)
  | (with_reducible refine $(Lean.mkIdent `Y.g_seqA) ?_)
  | (with_reducible refine $(Lean.mkIdent `Y.g_seqR) ?_)
  | (with_reducible refine $(Lean.mkIdent `Y.g_seqF) ?_)
  | (with_reducible refine $(Lean.mkIdent `Y.g_asg) ?_)
  | (with_reducible refine $(Lean.mkIdent `Y.g_name) ?_)
  | (with_reducible refine $(Lean.mkIdent `Y.g_ifS) ?_)
  | (with_reducible refine $(Lean.mkIdent `Y.ite_nf) ?_)
  | (with_reducible refine $(Lean.mkIdent `Y.ite_nt) ?_)
  | (with_reducible refine iteF ?_)
  | (with_reducible refine iteT ?_)
  | ((with_reducible refine $(Lean.mkIdent `Y.g_wipe) ?h ?_); (case h => exact rfl))
  | ((with_reducible refine' $(Lean.mkIdent `Y.g_take) ?T ?c0 ?c9 fun v H' h0 h1 T' k' => ?_); (case T => walk_at "tp"); (case c0 => walk_at "sd"); (case c9 => walk_at "sd"))
  | ((with_reducible refine $(Lean.mkIdent `Y.g_sz) ?z fun p hp => ?_); (case z => walk_at "sd"))
  | (with_reducible refine $(Lean.mkIdent `Y.g_pow6) ?_)
  | (with_reducible refine $(Lean.mkIdent `Y.g_pow12) ?_)
  | (with_reducible refine $(Lean.mkIdent `Y.g_pow18) ?_)
  | ((with_reducible refine $(Lean.mkIdent `Y.g_rI) ?c ?_); (case c => walk_at "sd"))
  | ((with_reducible refine $(Lean.mkIdent `Y.g_eq) ?c ?_); (case c => walk_at "rf"))
  | ((with_reducible refine $(Lean.mkIdent `Y.g_ne) ?c ?_); (case c => walk_at "rf"))
  | ((with_reducible refine' $(Lean.mkIdent `Y.g_ixL) ?h ?a ?_); (case h => walk_at "sq"); (case a => walk_at "ai"))
  | ((with_reducible refine' $(Lean.mkIdent `Y.g_pk2) ?h ?gxs ?a ?b fun v hv => ?_); (case h => walk_at "at"); (case gxs => with_reducible rfl); (case a => first | with_reducible assumption | omega); (case b => first | with_reducible assumption | omega))
  | ((with_reducible refine' $(Lean.mkIdent `Y.g_pk4) ?h ?gxs ?a ?b fun v hv => ?_); (case h => walk_at "at"); (case gxs => with_reducible rfl); (case a => first | with_reducible assumption | omega); (case b => first | with_reducible assumption | omega))
  | ((with_reducible refine' $(Lean.mkIdent `Y.g_pk5) ?h ?gxs ?a ?b fun v hv => ?_); (case h => walk_at "at"); (case gxs => with_reducible rfl); (case a => first | with_reducible assumption | omega); (case b => first | with_reducible assumption | omega))
  | ((with_reducible refine' $(Lean.mkIdent `Y.g_pickL) ?h ?a ?b ?e fun v hv => ?_); (case h => walk_at "at"); (case a => first | with_reducible assumption | omega); (case b => first | with_reducible assumption | omega); (case e => exact rfl))
  | ((with_reducible refine' $(Lean.mkIdent `Y.g_ixT) ?h ?a ?_); (case h => walk_at "sq"); (case a => walk_at "ai"))
  | ((with_reducible refine' $(Lean.mkIdent `Y.g_setL) ?h ?a ?_); (case h => walk_at "at"); (case a => walk_at "ai"))
  | ((with_reducible refine' $(Lean.mkIdent `Y.g_len) ?h ?_); (case h => walk_at "sq"))
  | (with_reducible refine $(Lean.mkIdent `Y.g_call) ?_)
  | (with_reducible refine $(Lean.mkIdent `Y.g_tB) ?_)
  | (with_reducible refine $(Lean.mkIdent `Y.g_un) ?_)
  | (with_reducible refine $(Lean.mkIdent `Y.g_and) ?_)
  | (with_reducible refine $(Lean.mkIdent `Y.g_or) ?_)
  | (with_reducible refine $(Lean.mkIdent `Y.g_not) ?_)
  | (with_reducible refine $(Lean.mkIdent `Y.g_tTup) ?_)
  | (with_reducible refine $(Lean.mkIdent `Y.g_tLst) ?_)
  | (with_reducible refine $(Lean.mkIdent `Y.g_sl) ?_)
  | (with_reducible refine $(Lean.mkIdent `Y.g_pt) ?_)
  | (with_reducible refine $(Lean.mkIdent `Y.g_np) ?_)
  | (with_reducible refine $(Lean.mkIdent `Y.g_bm) ?_)
  | (with_reducible refine $(Lean.mkIdent `Y.g_andV) ?_)
  | (with_reducible refine $(Lean.mkIdent `Y.g_orV) ?_)
  | (with_reducible refine $(Lean.mkIdent `Y.g_notV) ?_)
  | (with_reducible refine $(Lean.mkIdent `Y.g_chain) ?_)
  | (with_reducible refine $(Lean.mkIdent `Y.g_ret) ?_)
  | (with_reducible refine $(Lean.mkIdent `Y.g_drop) ?_)
  | (with_reducible refine $(Lean.mkIdent `Y.g_next) ?_)
  | (with_reducible refine $(Lean.mkIdent `Y.g_sub) ?_)
  | (with_reducible refine $(Lean.mkIdent `Y.g_gcons) ?_)
  | (with_reducible refine $(Lean.mkIdent `Y.g_gnil) ?_)
  | (with_reducible refine $(Lean.mkIdent `Y.g_yes) ?_)
  | (with_reducible refine $(Lean.mkIdent `Y.g_exI) ?_)
  | (with_reducible refine $(Lean.mkIdent `Y.g_rng1) ?_)
  | (with_reducible refine $(Lean.mkIdent `Y.g_iList) ?_)
  | (with_reducible refine $(Lean.mkIdent `Y.g_iTup) ?_)
  | (with_reducible refine $(Lean.mkIdent `Y.g_for) ?_)
  | (with_reducible refine $(Lean.mkIdent `Y.g_lc) ?_)
  | (with_reducible refine $(Lean.mkIdent `Y.g_rI0) ?_)
  | (with_reducible refine $(Lean.mkIdent `Y.g_isN) ?_)
  | (with_reducible refine $(Lean.mkIdent `Y.g_notN) ?_)
  | (with_reducible refine $(Lean.mkIdent `Y.g_neg) ?_)
  | (with_reducible refine $(Lean.mkIdent `Y.g_max2) ?_)
  | (with_reducible refine $(Lean.mkIdent `Y.g_min2) ?_)
  | (with_reducible refine $(Lean.mkIdent `Y.g_bl) ?_)
  | ((with_reducible refine' $(Lean.mkIdent `Y.g_slTo) ?n ?h fun p hp => ?_); (case n => walk_at "sd"); (case h => walk_at "sq"))
  | ((with_reducible refine' $(Lean.mkIdent `Y.g_slFrom) ?n ?h fun p hp => ?_); (case n => walk_at "sd"); (case h => walk_at "sq"))
  | ((with_reducible refine' $(Lean.mkIdent `Y.g_slMid) ?n0 ?n1 ?h fun p hp => ?_); (case n0 => walk_at "sd"); (case n1 => walk_at "sd"); (case h => walk_at "sq"))
  | ((with_reducible refine' $(Lean.mkIdent `Y.g_slL) ?h fun p hp => ?_); (case h => walk_at "sq"))
  | ((with_reducible refine' $(Lean.mkIdent `Y.g_cat) ?h ?h2 ?z fun l hl => ?_); (case h => walk_at "at"); (case h2 => walk_at "at"); (case z => walk_at "sd"))
  | ((with_reducible refine' $(Lean.mkIdent `Y.g_is_whole) ?hh ?_); (case hh => walk_at "ad"))
  | ((with_reducible refine' $(Lean.mkIdent `Y.g_is_day) ?hh ?_); (case hh => walk_at "ad"))
  | ((with_reducible refine' $(Lean.mkIdent `Y.g_is_two_days) ?hh ?_); (case hh => walk_at "ad"))
  | ((with_reducible refine' $(Lean.mkIdent `Y.g_is_stretch) ?hh ?_); (case hh => walk_at "ad"))
  | ((with_reducible refine' $(Lean.mkIdent `Y.g_is_coins) ?hh ?_); (case hh => walk_at "ad"))
  | ((with_reducible refine' $(Lean.mkIdent `Y.g_is_nights) ?hh ?_); (case hh => walk_at "ad"))
  | (with_reducible refine $(Lean.mkIdent `Y.g_tMake) ?_)
  | ((with_reducible refine' $(Lean.mkIdent `Y.g_mkPrice) ?cf fun v H' hs hi => ?_); (case cf => with_reducible assumption))
  | ((with_reducible refine' $(Lean.mkIdent `Y.g_mkCome) ?cf fun v H' hs hi => ?_); (case cf => with_reducible assumption))
  | ((with_reducible refine' $(Lean.mkIdent `Y.g_mkGo) ?cf fun v H' hs hi => ?_); (case cf => with_reducible assumption))
  | ((with_reducible refine' $(Lean.mkIdent `Y.g_mkLeast) ?cf fun v H' hs hi => ?_); (case cf => with_reducible assumption))
  | ((with_reducible refine' $(Lean.mkIdent `Y.g_mkMost) ?cf fun v H' hs hi => ?_); (case cf => with_reducible assumption))
  | ((with_reducible refine' $(Lean.mkIdent `Y.g_mkDeal) ?cf fun v H' hs hi => ?_); (case cf => with_reducible assumption))
  | ((with_reducible refine' $(Lean.mkIdent `Y.g_mkFee) ?cf fun v H' hs hi => ?_); (case cf => with_reducible assumption))
  | ((with_reducible refine' $(Lean.mkIdent `Y.g_rule) ?ha ?hi ?no ?_); (case ha => exact rfl); (case hi => walk_at "ins"); (case no => exact rfl))
  | (with_reducible refine $(Lean.mkIdent `Y.g_word) ?_)
  | ((with_reducible refine' $(Lean.mkIdent `Y.g_fits) ?cf ?hi ?hh ?_); (case cf => with_reducible assumption); (case hi => walk_at "ins"); (case hh => walk_at "ad"))
  | ((with_reducible refine' $(Lean.mkIdent `Y.g_told) ?cf ?hi fun p H' hs hf ha => ?_); (case cf => with_reducible assumption); (case hi => walk_at "ins"))
  | ((with_reducible refine' $(Lean.mkIdent `Y.g_first) ?cf ?ha ?hi ?_); (case cf => with_reducible assumption); (case ha => exact rfl); (case hi => walk_at "ins"))
  | ((with_reducible refine' $(Lean.mkIdent `Y.g_last) ?cf ?ha ?hi ?_); (case cf => with_reducible assumption); (case ha => exact rfl); (case hi => walk_at "ins"))
  | ((with_reducible refine' $(Lean.mkIdent `Y.g_worth) ?cf ?ha ?hi ?_); (case cf => with_reducible assumption); (case ha => exact rfl); (case hi => walk_at "ins"))
  | ((with_reducible refine' $(Lean.mkIdent `Y.g_Lcoins) ?T fun i H' T' k' h0 h1 => ?_); (case T => walk_at "tp"))
  | ((with_reducible refine' $(Lean.mkIdent `Y.g_Lworth) ?T fun v d H' T' k' ht hf => ?_); (case T => walk_at "tp"))
  | ((with_reducible refine' $(Lean.mkIdent `Y.g_Lrule) ?T ?c0 ?c1 fun v r H' T' k' hr hg => ?_); (case T => walk_at "tp"); (case c0 => walk_at "sd"); (case c1 => walk_at "sd"))
  | ((with_reducible refine' $(Lean.mkIdent `Y.g_append) ?h ?z ?_); (case h => walk_at "at"); (case z => walk_at "sd"))
  | ((with_reducible refine' $(Lean.mkIdent `Y.g_gtup) ?h ?l ?_); (case h => walk_at "sq"); (case l => walk_at "rf"))
  | ((with_reducible refine' $(Lean.mkIdent `Y.g_tyL) ?h ?_); (case h => walk_at "sq"))
  | ((with_reducible refine $(Lean.mkIdent `Y.g_rng1b) ?a ?b ?_); (case a => walk_at "sd"); (case b => walk_at "sd"))
  | ((with_reducible refine' $(Lean.mkIdent `Y.g_iListb) ?h ?_); (case h => walk_at "sq"))
  | ((with_reducible refine' $(Lean.mkIdent `Y.g_iTupb) ?h ?_); (case h => walk_at "sq"))
  | (with_reducible refine $(Lean.mkIdent `Y.g_begin) fun t H' hs hf T => ?_)
  | walk_at "isi"
  | fail)
local macro_rules | `(tactic| walk_at "ss") => `(tactic| repeat walk_at "s1")
local macro_rules | `(tactic| walk_at "st") => `(tactic| repeat (first | walk_at "s1" | (with_reducible refine $(Lean.mkIdent `Y.g_seq) ?_)))
def t_Ltake (K : PySem.W.Frag) : TS :=
  (tSeq (tIfS (tTest (tOp rGt (tOp (rIxL K) (tVar 0) (tC (.int 0))) (tC (.int 0))))
  (tSeq (tAsg (tOp rMod (tOp (rIxL K) (tVar 0) (tC (.int 0))) (tVar 1)) (gName 2))
  (tSeq (tAsg (tOp rDivW (tOp (rIxL K) (tVar 0) (tC (.int 0))) (tVar 1)) (gSub (tVar 0) (tC (.int 0)) rSetL))
  (tRet (tVar 2))))
  tNext)
  (tSeq (tAsg (tOp rMod (tOp rAdd (tOp rMul (tOp (rIxL K) (tVar 0) (tC (.int 1))) (tC (.int 48271))) (tC (.int 11))) (tC (.int 2147483647))) (gSub (tVar 0) (tC (.int 1)) rSetL))
  (tSeq (tAsg (tOp rMod (tOp rAdd (tOp rAdd (tOp rMul (tOp (rIxL K) (tVar 0) (tC (.int 1))) (tOp (rIxL K) (tVar 0) (tC (.int 1)))) (tOp rMul (tC (.int 69621)) (tOp (rIxL K) (tVar 0) (tC (.int 1))))) (tC (.int 7))) (tC (.int 2147483629))) (gName 3))
  (tRet (tOp rMod (tOp rDivW (tVar 3) (tC (.int 64))) (tVar 1))))))
theorem pure_Ltake {K : PySem.W.Frag} {x y : V} {H : Hp} {Q : VK} {E : XK} (h : sp_Ltake K [x, y] H Q E) : t_Ltake K { nx := fun _ H' => Q .non H', rt := Q } [some x, some y, none, none] H := by
  obtain ⟨x, y, e, t, b, s, m, rfl, rfl, ⟨rfl, rfl, a, c, ht, ha, hc, hc2⟩, hm0, hm9, q⟩ := h
  cases e
  unfold t_Ltake
  with_reducible refine g_seq ?_
  walk_at "ss"
  refine ite_d (fun z => ?_) fun z => ?_
  · with_reducible refine g_seqA ?_
    walk_at "ss"
    exact q _ _ (Int.emod_nonneg _ (by omega)) (Int.emod_lt_of_pos _ hm0) ⟨rfl, rfl, _, _, upd_same, Int.ediv_nonneg ha (by omega), hc, hc2⟩ (kp_upd (by simp))
  · walk_at "ss"
    have e0 : 0 ≤ (c * 48271 + 11) % 2147483647 := Int.emod_nonneg _ (by decide)
    have e1 : (c * 48271 + 11) % 2147483647 < 2147483647 := Int.emod_lt_of_pos _ (by decide)
    exact q _ _ (Int.emod_nonneg _ (by omega)) (Int.emod_lt_of_pos _ hm0) ⟨rfl, rfl, _, _, upd_same, ha, e0, by omega⟩ (kp_upd (by simp))
def t_Lbegin (K : PySem.W.Frag) : TS :=
  (tSeq (tIfS (tTest (tOp rGe (tVar 0) (tOp rPow (tC (.int 10)) (tC (.int 18)))))
  (tRet (tLst (tCons (tOp rSub (tVar 0) (tOp rPow (tC (.int 10)) (tC (.int 18)))) (tCons (tC (.int 0)) tNil))))
  tNext)
  (tRet (tLst (tCons (tC (.int 0)) (tCons (tOp rAdd (tOp rMod (tVar 0) (tC (.int 2147483629))) (tC (.int 11))) tNil)))))
theorem pure_Lbegin {K : PySem.W.Frag} {x : V} {H : Hp} {Q : VK} {E : XK} (h : sp_Lbegin K [x] H Q E) : t_Lbegin K { nx := fun _ H' => Q .non H', rt := Q } [some x] H := by
  obtain ⟨x, e, c, rfl, q⟩ := h
  cases e
  unfold t_Lbegin
  walk_at "ss"
  refine ite_d (fun z => ?_) fun z => ?_
  · walk_at "ss"
    rename_i t ht
    exact q t _ (same_new ht) ht ⟨rfl, rfl, _, _, upd_same, by omega, by decide, by decide⟩
  · walk_at "ss"
    rename_i t ht
    have e0 : 0 ≤ c % 2147483629 := Int.emod_nonneg _ (by decide)
    have e1 : c % 2147483629 < 2147483629 := Int.emod_lt_of_pos _ (by decide)
    exact q t _ (same_new ht) ht ⟨rfl, rfl, _, _, upd_same, by decide, by omega, by omega⟩
def t_Lcell_at (K : PySem.W.Frag) : TS :=
  (tSeq (tIfS (tTest (tOp rLt (tVar 1) (tCB (rLen K) (tCons (tVar 0) tNil))))
  (tRet (tOp (rIxL K) (tVar 0) (tVar 1)))
  tNext)
  (tRet (tC (.int 0))))
/-! Y2: days, stays, nights. -/
open PySem PySem.Spec PyProof.Rows L2
def sp_nights_of (K : PySem.W.Frag) : Sp := Sp1 fun x H Q E => ∃ (a : Addr) (c g : Int), x = .ref a ∧ SqT K H a [.int c, .int g] ∧ c - 1000 ≤ g ∧ g ≤ c + 1000 ∧ -10000000 ≤ c ∧ c ≤ 10000000 ∧
  ∀ (p : Addr) (H' : Hp), Same H H' → Fr H p → H' p = some (.lst ((days c g).map V.int)) → Q (.ref p) H'
/-! YX: list.count of flat items; range of three arguments. -/
open PySem PySem.Spec PyProof.Rows L2
/-- l.count(y), flat items -/
def rCntV (K : PySem.W.Frag) : V → List V → Hp → VK → Prop := fun x vs H Q => ∃ (p : Addr) (xs : List V) (y : V), x = .ref p ∧ vs = [y] ∧ flatV y = true ∧ xs.all flatV = true ∧ SqL K H p xs ∧ Q (.int (xs.countP fun z => eqV z y : Nat)) H
/-! Y8: marked: which nights of bundles are free. -/
open PySem PySem.Spec PyProof.Rows L2
/-! ### the plain law -/
def ltP (a b : Pr) : Bool := decide (a.1 < b.1) || (decide (a.1 = b.1) && decide (a.2 < b.2))
def key (ps : List Int) (p : Nat) : Pr := (ps.getD p 0, (ps.length : Int) - p)
def bund (ps : List Int) (m b : Nat) : List Pr := (List.range m).map fun i => key ps (b * m + i)
def rank (ps : List Int) (m p : Nat) : Nat := (bund ps m (p / m)).countP fun k => ltP k (key ps p)
def isMk (ps : List Int) (m f p : Nat) : Bool := decide (p / m < ps.length / m) && decide (rank ps m p < f)
def mk (ps : List Int) (m f : Nat) : List Bool := (List.range ps.length).map fun p => isMk ps m f p
def mkO (ps : List Int) : Option (Int × Int) → List Bool
  | none => List.replicate ps.length false
  | some d => mk ps d.1.toNat d.2.toNat
/-! ### the walk -/
def DealAt (H : Hp) (y : V) : Option (Int × Int) → Prop
  | none => y = .non
  | some d => PrAt H y d ∧ 0 < d.1 ∧ d.1 ≤ 1000 ∧ 0 ≤ d.2
def sp_marked (K : PySem.W.Frag) : Sp := Sp2 fun x y H Q E => ∃ (a : Addr) (ps : List Int) (d : Option (Int × Int)), x = .ref a ∧ SqL K H a (ps.map V.int) ∧ ps.length ≤ 1000 ∧ DealAt H y d ∧
  ∀ (l : Addr) (H' : Hp), Same H H' → Fr H l → H' l = some (.lst ((mkO ps d).map V.bl)) → Q (.ref l) H'
/-! YA: data of any shape in the heap. -/
open PySem PySem.Spec PyProof.Rows L2
mutual
/-- v is laid as d; its lists and tuples stand at none of L -/
inductive At (H : Hp) (L : List Addr) : V → PyData → Prop
  | non : At H L .non .none
  | bl (b : Bool) : At H L (.bl b) (.bool b)
  | int (i : Int) : At H L (.int i) (.int i)
  | str (z : Str) : At H L (.str z) (.str z)
  | lst {a : Addr} {xs : List V} {ds : List PyData} (n : a ∉ L) (h : H a = some (.lst xs)) (r : Ats H L xs ds) : At H L (.ref a) (.list ds)
  | tup {a : Addr} {xs : List V} {ds : List PyData} (n : a ∉ L) (h : H a = some (.tup xs)) (r : Ats H L xs ds) : At H L (.ref a) (.tuple ds)
inductive Ats (H : Hp) (L : List Addr) : List V → List PyData → Prop
  | nil : Ats H L [] []
  | cons {v : V} {vs : List V} {d : PyData} {ds : List PyData} (h : At H L v d) (r : Ats H L vs ds) : Ats H L (v :: vs) (d :: ds)
end
theorem Ats.len {H : Hp} {L : List Addr} : ∀ {vs : List V} {ds : List PyData}, Ats H L vs ds → vs.length = ds.length
  | _, _, .nil => rfl
  | _, _, .cons _ r => by rw [List.length_cons, List.length_cons, Ats.len r]
mutual
theorem At.mono {H H' : Hp} {L L' : List Addr} (k : ∀ a o, H a = some o → a ∉ L → H' a = some o) (l : ∀ a ∈ L', a ∈ L) : ∀ {v : V} {d : PyData}, At H L v d → At H' L' v d
  | _, _, .non => .non
  | _, _, .bl b => .bl b
  | _, _, .int i => .int i
  | _, _, .str z => .str z
  | _, _, .lst n h r => .lst (fun z => n (l _ z)) (k _ _ h n) (Ats.mono k l r)
  | _, _, .tup n h r => .tup (fun z => n (l _ z)) (k _ _ h n) (Ats.mono k l r)
theorem Ats.mono {H H' : Hp} {L L' : List Addr} (k : ∀ a o, H a = some o → a ∉ L → H' a = some o) (l : ∀ a ∈ L', a ∈ L) : ∀ {vs : List V} {ds : List PyData}, Ats H L vs ds → Ats H' L' vs ds
  | _, _, .nil => .nil
  | _, _, .cons h r => .cons (At.mono k l h) (Ats.mono k l r)
end
theorem At.kp {H H' : Hp} {L : List Addr} {v : V} {d : PyData} (k : Kp L H H') (h : At H L v d) : At H' L v d := h.mono k fun _ z => z
theorem At.same {H H' : Hp} {L : List Addr} {v : V} {d : PyData} (k : Same H H') (h : At H L v d) : At H' L v d := h.mono (fun a o e _ => k a o e) fun _ z => z
theorem At.nil {H : Hp} {L : List Addr} {v : V} {d : PyData} (h : At H L v d) : At H [] v d := h.mono (fun _ _ e _ => e) fun _ z => by simp at z
theorem at_new' {H : Hp} {L : List Addr} {p : Addr} {o : HO} {v : V} {d : PyData} (hp : Fr H p) (h : At H L v d) : At (upd H p o) L v d := h.same (same_new hp)
mutual
theorem At.dp {K : PySem.W.Frag} {H : Hp} {L : List Addr} : ∀ {v : V} {d : PyData}, At H L v d → Dp K H v d
  | _, _, .non => .non
  | _, _, .bl b => .bl b
  | _, _, .int i => .int i
  | _, _, .str z => .str z
  | _, _, .lst _ h r => .lst (SqL.of h) (Ats.dp r)
  | _, _, .tup _ h r => .tup (SqT.of h) (Ats.dp r)
theorem Ats.dp {K : PySem.W.Frag} {H : Hp} {L : List Addr} : ∀ {vs : List V} {ds : List PyData}, Ats H L vs ds → DpAll K H vs ds
  | _, _, .nil => .nil
  | _, _, .cons h r => .cons (At.dp h) (Ats.dp r)
end
theorem at_tup0 {H : Hp} {a : Addr} {xs : List V} {ds : List PyData} (h : H a = some (.tup xs)) (r : Ats H [] xs ds) : At H [] (.ref a) (.tuple ds) := .tup (by simp) h r
theorem at_lst0 {H : Hp} {a : Addr} {xs : List V} {ds : List PyData} (h : H a = some (.lst xs)) (r : Ats H [] xs ds) : At H [] (.ref a) (.list ds) := .lst (by simp) h r
mutual
/-- data of tuples alone -/
inductive Td (H : Hp) : V → PyData → Prop
  | non : Td H .non .none
  | bl (b : Bool) : Td H (.bl b) (.bool b)
  | int (i : Int) : Td H (.int i) (.int i)
  | str (z : Str) : Td H (.str z) (.str z)
  | tup {a : Addr} {xs : List V} {ds : List PyData} (h : H a = some (.tup xs)) (r : Tds H xs ds) : Td H (.ref a) (.tuple ds)
inductive Tds (H : Hp) : List V → List PyData → Prop
  | nil : Tds H [] []
  | cons {v : V} {vs : List V} {d : PyData} {ds : List PyData} (h : Td H v d) (r : Tds H vs ds) : Tds H (v :: vs) (d :: ds)
end
mutual
theorem Td.tk {H H' : Hp} (k : Tk H H') : ∀ {v : V} {d : PyData}, Td H v d → Td H' v d
  | _, _, .non => .non
  | _, _, .bl b => .bl b
  | _, _, .int i => .int i
  | _, _, .str z => .str z
  | _, _, .tup h r => .tup (k _ _ h) (Tds.tk k r)
theorem Tds.tk {H H' : Hp} (k : Tk H H') : ∀ {vs : List V} {ds : List PyData}, Tds H vs ds → Tds H' vs ds
  | _, _, .nil => .nil
  | _, _, .cons h r => .cons (Td.tk k h) (Tds.tk k r)
end
mutual
theorem Td.at {H : Hp} {L : List Addr} (l : ∀ a xs, H a = some (.tup xs) → a ∉ L) : ∀ {v : V} {d : PyData}, Td H v d → At H L v d
  | _, _, .non => .non
  | _, _, .bl b => .bl b
  | _, _, .int i => .int i
  | _, _, .str z => .str z
  | _, _, .tup h r => .tup (l _ _ h) h (Tds.at l r)
theorem Tds.at {H : Hp} {L : List Addr} (l : ∀ a xs, H a = some (.tup xs) → a ∉ L) : ∀ {vs : List V} {ds : List PyData}, Tds H vs ds → Ats H L vs ds
  | _, _, .nil => .nil
  | _, _, .cons h r => .cons (Td.at l h) (Tds.at l r)
end
theorem Td.at0 {H : Hp} {v : V} {d : PyData} (h : Td H v d) : At H [] v d := h.at fun _ _ _ z => by simp at z
theorem td_new {H : Hp} {p : Addr} {o : HO} {v : V} {d : PyData} (hp : Fr H p) (h : Td H v d) : Td (upd H p o) v d := h.tk (tk_new hp)
theorem td_same {H H' : Hp} {v : V} {d : PyData} (k : Same H H') (h : Td H v d) : Td H' v d := h.tk (Same.tk k)
theorem td_tup {H : Hp} {a : Addr} {xs : List V} {ds : List PyData} (h : H a = some (.tup xs)) (r : Tds H xs ds) : Td H (.ref a) (.tuple ds) := .tup h r
theorem Td.dp {K : PySem.W.Frag} {H : Hp} {v : V} {d : PyData} (h : Td H v d) : Dp K H v d := h.at0.dp
/-! ### the length of what is shown -/
/-- may be shown: by so many signs, so deep -/
structure Sho (k m : Nat) (d : PyData) : Prop where
  sh : d.showable = true
  nd : d.hasDict = false
  dp : d.depth ≤ k
  sz : d.shown.length ≤ m
/-! YK: kinds of rules, their classes; what the rules' defs promise. -/
open PySem PySem.Spec PyProof.Rows L2
/-- the words of rules -/
inductive Wd | price | come | go | least | most | deal | fee
  deriving DecidableEq
def Wd.cls : Wd → Str
  | .price => "Price" | .come => "Come" | .go => "Go" | .least => "Least" | .most => "Most" | .deal => "Deal" | .fee => "Fee"
def Wd.word : Wd → Str
  | .price => "price" | .come => "come" | .go => "go" | .least => "least" | .most => "most" | .deal => "deal" | .fee => "fee"
abbrev aC (K : PySem.W.Frag) (w : Wd) : Addr := He.ga K w.cls
theorem Wd.mem (w : Wd) : w.cls ∈ ruleCls := by cases w <;> decide
def CFR (K : PySem.W.Frag) : Prop := exRules K = true
section
variable {K : PySem.W.Frag} (c : CFR K)
include c
theorem CFR.one (w : Wd) : ((He.Fa.cls w.cls).ok K && ((["first", "last", "worth"] : List Str).all (fun f => (He.Fa.noat w.cls f).ok K) && (tyB K (He.ga K w.cls) && isiB K w.cls "Rule" true))) = true :=
  List.all_eq_true.mp (He.ba c).1 _ w.mem
theorem CFR.cls (w : Wd) : Cls K (aC K w) := He.cls_ok (He.ba (CFR.one c w)).1
theorem CFR.no (w : Wd) {f : Str} (h : f ∈ (["first", "last", "worth"] : List Str)) : NoAttr K (aC K w) f := He.noat_ok (List.all_eq_true.mp (He.ba (He.ba (CFR.one c w)).2).1 f h)
theorem CFR.words (H : Hp) : SqT K H (He.ga K "WORDS") (wordsL.map V.str) := by
  have h := He.tupB_ok (He.ba (He.ba c).2).2 H
  rw [List.map_map] at h
  exact h
end
/-! ### data of rules -/
def isW : PyData → Bool
  | .int _ => true
  | _ => false
def isDay : PyData → Bool
  | .int i => decide (0 ≤ i) && decide (i ≤ 1000000)
  | _ => false
def is2 : PyData → Bool
  | .tuple [a, b] => isDay a && isDay b
  | _ => false
def isStr : PyData → Bool
  | .tuple [.int a, .int b] => isDay (.int a) && (isDay (.int b) && decide (a ≤ b))
  | _ => false
def isCoins : PyData → Bool
  | .int i => decide (0 ≤ i) && decide (i ≤ 1000000000000)
  | _ => false
def isNights : PyData → Bool
  | .int i => decide (1 ≤ i) && decide (i ≤ 14)
  | _ => false
def isNone : PyData → Bool
  | .none => true
  | _ => false
def isBool : PyData → Bool
  | .bool _ => true
  | _ => false
def isDeal : PyData → Bool
  | .none => true
  | .tuple [a, .int f] => isNights a && (match a with | .int m => decide (1 ≤ f) && decide (f < m) | _ => false)
  | _ => false
def fitsD : Wd → PyData → Bool
  | .price, d => isNone d || isCoins d
  | .come, d => isBool d
  | .go, d => isBool d
  | .least, d => isNights d
  | .most, d => isNights d
  | .deal, d => isDeal d
  | .fee, d => isCoins d
structure RuleD where
  w : Wd
  f : Int
  l : Int
  d : PyData
def RuleD.told (r : RuleD) : PyData := .tuple [.str r.w.word, .int r.f, .int r.l, r.d]
def RuleD.good (r : RuleD) : Prop := 0 ≤ r.f ∧ r.f ≤ r.l ∧ r.l ≤ 1000000 ∧ fitsD r.w r.d = true
/-- a rule's object -/
def RuleAt (K : PySem.W.Frag) (H : Hp) (v : V) (r : RuleD) : Prop := ∃ (a dx : Addr) (wv : V), v = .ref a ∧ H a = some (.ins (aC K r.w) dx [("first", .int r.f), ("last", .int r.l), ("worth", wv)]) ∧ Td H wv r.d
/-! ### promises -/
def sp_is_whole (K : PySem.W.Frag) : Sp := Sp1 fun x H Q E => ∃ d, At H [] x d ∧ Q (.bl (isW d)) H
theorem g_is_whole {K : PySem.W.Frag} {H : Hp} {Q : VK} {E : XK} {x : V} {d : PyData} (h : At H [] x d) (q : Q (.bl (isW d)) H) : sp_is_whole K ([x] ++ []) H Q E := ⟨x, rfl, d, h, q⟩
def sp_is_day (K : PySem.W.Frag) : Sp := Sp1 fun x H Q E => ∃ d, At H [] x d ∧ Q (.bl (isDay d)) H
theorem g_is_day {K : PySem.W.Frag} {H : Hp} {Q : VK} {E : XK} {x : V} {d : PyData} (h : At H [] x d) (q : Q (.bl (isDay d)) H) : sp_is_day K ([x] ++ []) H Q E := ⟨x, rfl, d, h, q⟩
def sp_is_two_days (K : PySem.W.Frag) : Sp := Sp1 fun x H Q E => ∃ d, At H [] x d ∧ Q (.bl (is2 d)) H
theorem g_is_two_days {K : PySem.W.Frag} {H : Hp} {Q : VK} {E : XK} {x : V} {d : PyData} (h : At H [] x d) (q : Q (.bl (is2 d)) H) : sp_is_two_days K ([x] ++ []) H Q E := ⟨x, rfl, d, h, q⟩
def sp_is_stretch (K : PySem.W.Frag) : Sp := Sp1 fun x H Q E => ∃ d, At H [] x d ∧ Q (.bl (isStr d)) H
theorem g_is_stretch {K : PySem.W.Frag} {H : Hp} {Q : VK} {E : XK} {x : V} {d : PyData} (h : At H [] x d) (q : Q (.bl (isStr d)) H) : sp_is_stretch K ([x] ++ []) H Q E := ⟨x, rfl, d, h, q⟩
def sp_is_coins (K : PySem.W.Frag) : Sp := Sp1 fun x H Q E => ∃ d, At H [] x d ∧ Q (.bl (isCoins d)) H
theorem g_is_coins {K : PySem.W.Frag} {H : Hp} {Q : VK} {E : XK} {x : V} {d : PyData} (h : At H [] x d) (q : Q (.bl (isCoins d)) H) : sp_is_coins K ([x] ++ []) H Q E := ⟨x, rfl, d, h, q⟩
def sp_is_nights (K : PySem.W.Frag) : Sp := Sp1 fun x H Q E => ∃ d, At H [] x d ∧ Q (.bl (isNights d)) H
theorem g_is_nights {K : PySem.W.Frag} {H : Hp} {Q : VK} {E : XK} {x : V} {d : PyData} (h : At H [] x d) (q : Q (.bl (isNights d)) H) : sp_is_nights K ([x] ++ []) H Q E := ⟨x, rfl, d, h, q⟩
theorem and_t {a b : Bool} {Q : VK} {H : Hp} (h : a = true) (q : Q (.bl (a && b)) H) : Q (.bl b) H := by rwa [h, Bool.true_and] at q
theorem and_f {a b : Bool} {Q : VK} {H : Hp} (h : a = false) (q : Q (.bl (a && b)) H) : Q (.bl false) H := by rwa [h, Bool.false_and] at q
/-! YJ: rules' objects: their fields, their making, their methods. -/
open PySem PySem.Spec PyProof.Rows L2
/-- an object of the class of w with these three fields -/
def InsAt (K : PySem.W.Frag) (H : Hp) (v : V) (w : Wd) (x y z : V) : Prop := ∃ a dx, v = .ref a ∧ H a = some (.ins (aC K w) dx [("first", x), ("last", y), ("worth", z)])
/-- all that is no list stays -/
def Nk (H H' : Hp) : Prop := ∀ a o, H a = some o → (∀ xs, o ≠ .lst xs) → H' a = some o
theorem Nk.trans {H H1 H2 : Hp} (a : Nk H H1) (b : Nk H1 H2) : Nk H H2 := fun c o h n => b c o (a c o h n) n
section
variable {K : PySem.W.Frag} {H H' : Hp} {v x y z : V} {w : Wd} {r : RuleD}
end
theorem RuleAt.of {K : PySem.W.Frag} {H : Hp} {v : V} {r : RuleD} {wv : V} (h : InsAt K H v r.w (.int r.f) (.int r.l) wv) (q : Td H wv r.d) : RuleAt K H v r := let ⟨a, dx, e, h⟩ := h; ⟨a, dx, wv, e, h, q⟩
/-! ### readings -/
/-- a method of whichever rule's class -/
def tRule (K : PySem.W.Frag) (m : Str) (sp : Wd → Sp) (ta : TE) (t : TA) : TE := fun σ H Q => ∃ w : Wd, tMeth (aC K w) m (sp w) [] E0 ta t σ H Q
theorem pe_rule {X : Cx} {e : Expr} {m : Str} {sp : Wd → Sp} {ta : TE} {t : TA} (h : ∀ w, PE X e (tMeth (aC X.K w) m (sp w) [] E0 ta t)) : PE X e (tRule X.K m sp ta t) := ⟨fun pins s σ H Q I q => let ⟨w, q⟩ := q; (h w).run pins s σ H Q I q⟩
theorem g_rule {K : PySem.W.Frag} {m : Str} {sp : Wd → Sp} {t : TA} {n : Nat} {σ : L2.St} {H : Hp} {Q : VK} {v x y z : V} {w : Wd} (h : σ[n]? = some (some v)) (i : InsAt K H v w x y z) (no : ([("first", x), ("last", y), ("worth", z)] : List (Str × V)).lookup m = none)
    (q : t σ H fun vs H2 => sp w (v :: (vs ++ [])) H2 Q E0) : tRule K m sp (tVar n) t σ H Q := by
  obtain ⟨a, dx, rfl, e⟩ := i
  exact ⟨w, _, h, a, dx, _, rfl, e, no, q⟩
theorem g_fld {K : PySem.W.Frag} {f : Str} {n : Nat} {σ : L2.St} {H : Hp} {Q : VK} {v x y z u : V} {w : Wd} (c : CFR K) (h : σ[n]? = some (some v)) (i : InsAt K H v w x y z) (m : f ∈ (["first", "last", "worth"] : List Str))
    (l : ([("first", x), ("last", y), ("worth", z)] : List (Str × V)).lookup f = some u) (q : Q u H) : tFld K (tVar n) f σ H Q := by
  obtain ⟨a, dx, rfl, e⟩ := i
  exact ⟨_, h, a, _, dx, _, u, rfl, e, CFR.cls c w, CFR.no c w m, l, q⟩
theorem g_first {K : PySem.W.Frag} {n : Nat} {σ : L2.St} {H : Hp} {Q : VK} {v x y z : V} {w : Wd} (c : CFR K) (h : σ[n]? = some (some v)) (i : InsAt K H v w x y z) (q : Q x H) : tFld K (tVar n) "first" σ H Q := g_fld c h i (by decide) rfl q
theorem g_last {K : PySem.W.Frag} {n : Nat} {σ : L2.St} {H : Hp} {Q : VK} {v x y z : V} {w : Wd} (c : CFR K) (h : σ[n]? = some (some v)) (i : InsAt K H v w x y z) (q : Q y H) : tFld K (tVar n) "last" σ H Q := g_fld c h i (by decide) rfl q
theorem g_worth {K : PySem.W.Frag} {n : Nat} {σ : L2.St} {H : Hp} {Q : VK} {v x y z : V} {w : Wd} (c : CFR K) (h : σ[n]? = some (some v)) (i : InsAt K H v w x y z) (q : Q z H) : tFld K (tVar n) "worth" σ H Q := g_fld c h i (by decide) rfl q
/-! ### isinstance -/
/-! ### promises -/
def sp_Rule_init (K : PySem.W.Frag) : Sp := Sp4 fun v x y z H Q E => CFR K ∧ ∃ (a dx : Addr) (w : Wd), v = .ref a ∧ H a = some (.ins (aC K w) dx []) ∧ Q .non (upd H a (.ins (aC K w) dx [("first", x), ("last", y), ("worth", z)]))
def rMake (C : Addr) (sp : Sp) (dvs : List V) (E : XK) (vs : List V) (H1 : Hp) (Q : VK) : Prop := ∀ x dx, H1 x = none → H1 dx = none → dx ≠ x → sp (.ref x :: (vs ++ dvs)) (upd (upd H1 dx (.own x)) x (.ins C dx [])) (fun v H2 => v = .non ∧ Q (.ref x) H2) E
theorem g_tMake {C : Addr} {sp : Sp} {dvs : List V} {E : XK} {t : TA} {σ : L2.St} {H : Hp} {Q : VK} (h : t σ H fun vs H1 => rMake C sp dvs E vs H1 Q) : tMake C sp dvs E t σ H Q := h
theorem g_mkRule {K : PySem.W.Frag} {E : XK} {H : Hp} {Q : VK} {x y z : V} (w : Wd) (c : CFR K) (q : ∀ v H', Same H H' → InsAt K H' v w x y z → Q v H') : rMake (aC K w) (sp_Rule_init K) [] E [x, y, z] H Q := by
  intro a dx ha hd hne
  have h1 : upd H dx (.own a) a = none := by rw [upd_ne hne.symm]; exact ha
  refine ⟨_, _, _, _, rfl, c, a, dx, w, rfl, upd_same, rfl, q _ _ ?_ ⟨a, dx, rfl, upd_same⟩⟩
  rw [upd_upd]
  exact (same_new hd).trans (same_new h1)
theorem g_mkPrice {K : PySem.W.Frag} {E : XK} {H : Hp} {Q : VK} {x y z : V} (c : CFR K) (q : ∀ v H', Same H H' → InsAt K H' v .price x y z → Q v H') : rMake (He.ga K "Price") (sp_Rule_init K) [] E [x, y, z] H Q := g_mkRule .price c q
theorem g_mkCome {K : PySem.W.Frag} {E : XK} {H : Hp} {Q : VK} {x y z : V} (c : CFR K) (q : ∀ v H', Same H H' → InsAt K H' v .come x y z → Q v H') : rMake (He.ga K "Come") (sp_Rule_init K) [] E [x, y, z] H Q := g_mkRule .come c q
theorem g_mkGo {K : PySem.W.Frag} {E : XK} {H : Hp} {Q : VK} {x y z : V} (c : CFR K) (q : ∀ v H', Same H H' → InsAt K H' v .go x y z → Q v H') : rMake (He.ga K "Go") (sp_Rule_init K) [] E [x, y, z] H Q := g_mkRule .go c q
theorem g_mkLeast {K : PySem.W.Frag} {E : XK} {H : Hp} {Q : VK} {x y z : V} (c : CFR K) (q : ∀ v H', Same H H' → InsAt K H' v .least x y z → Q v H') : rMake (He.ga K "Least") (sp_Rule_init K) [] E [x, y, z] H Q := g_mkRule .least c q
theorem g_mkMost {K : PySem.W.Frag} {E : XK} {H : Hp} {Q : VK} {x y z : V} (c : CFR K) (q : ∀ v H', Same H H' → InsAt K H' v .most x y z → Q v H') : rMake (He.ga K "Most") (sp_Rule_init K) [] E [x, y, z] H Q := g_mkRule .most c q
theorem g_mkDeal {K : PySem.W.Frag} {E : XK} {H : Hp} {Q : VK} {x y z : V} (c : CFR K) (q : ∀ v H', Same H H' → InsAt K H' v .deal x y z → Q v H') : rMake (He.ga K "Deal") (sp_Rule_init K) [] E [x, y, z] H Q := g_mkRule .deal c q
theorem g_mkFee {K : PySem.W.Frag} {E : XK} {H : Hp} {Q : VK} {x y z : V} (c : CFR K) (q : ∀ v H', Same H H' → InsAt K H' v .fee x y z → Q v H') : rMake (He.ga K "Fee") (sp_Rule_init K) [] E [x, y, z] H Q := g_mkRule .fee c q
def sp_word (K : PySem.W.Frag) (w : Wd) : Sp := Sp1 fun x H Q E => Q (.str w.word) H
theorem g_word {K : PySem.W.Frag} {w : Wd} {v : V} {H : Hp} {Q : VK} {E : XK} (q : Q (.str w.word) H) : sp_word K w (v :: ([] ++ [])) H Q E := ⟨v, rfl, q⟩
abbrev sp_Price_word (K : PySem.W.Frag) : Sp := sp_word K .price
abbrev sp_Come_word (K : PySem.W.Frag) : Sp := sp_word K .come
abbrev sp_Go_word (K : PySem.W.Frag) : Sp := sp_word K .go
abbrev sp_Least_word (K : PySem.W.Frag) : Sp := sp_word K .least
abbrev sp_Most_word (K : PySem.W.Frag) : Sp := sp_word K .most
abbrev sp_Deal_word (K : PySem.W.Frag) : Sp := sp_word K .deal
abbrev sp_Fee_word (K : PySem.W.Frag) : Sp := sp_word K .fee
def sp_fits (K : PySem.W.Frag) (w : Wd) : Sp := Sp1 fun v H Q E => CFR K ∧ ∃ x y z d, InsAt K H v w x y z ∧ At H [] z d ∧ Q (.bl (fitsD w d)) H
theorem g_fits {K : PySem.W.Frag} {w : Wd} {v x y z : V} {d : PyData} {H : Hp} {Q : VK} {E : XK} (c : CFR K) (i : InsAt K H v w x y z) (h : At H [] z d) (q : Q (.bl (fitsD w d)) H) : sp_fits K w (v :: ([] ++ [])) H Q E := ⟨v, rfl, c, x, y, z, d, i, h, q⟩
abbrev sp_Price_fits (K : PySem.W.Frag) : Sp := sp_fits K .price
abbrev sp_Come_fits (K : PySem.W.Frag) : Sp := sp_fits K .come
abbrev sp_Go_fits (K : PySem.W.Frag) : Sp := sp_fits K .go
abbrev sp_Least_fits (K : PySem.W.Frag) : Sp := sp_fits K .least
abbrev sp_Most_fits (K : PySem.W.Frag) : Sp := sp_fits K .most
abbrev sp_Deal_fits (K : PySem.W.Frag) : Sp := sp_fits K .deal
abbrev sp_Fee_fits (K : PySem.W.Frag) : Sp := sp_fits K .fee
/-- the rule's tuple: a new one -/
def sp_Rule_told (K : PySem.W.Frag) : Sp := Sp1 fun v H Q E => CFR K ∧ ∃ w x y z, InsAt K H v w x y z ∧ ∀ p H', Same H H' → Fr H p → H' p = some (.tup [.str w.word, x, y, z]) → Q (.ref p) H'
abbrev sp_told (K : PySem.W.Frag) (_ : Wd) : Sp := sp_Rule_told K
theorem g_told {K : PySem.W.Frag} {w u : Wd} {v x y z : V} {H : Hp} {Q : VK} {E : XK} (c : CFR K) (i : InsAt K H v w x y z) (q : ∀ p H', Same H H' → Fr H p → H' p = some (.tup [.str w.word, x, y, z]) → Q (.ref p) H') : sp_told K u (v :: ([] ++ [])) H Q E := ⟨v, rfl, c, w, x, y, z, i, q⟩
def sp_Rule_tells (K : PySem.W.Frag) : Sp := Sp2 fun v u H Q E => CFR K ∧ ∃ w f l z d, InsAt K H v w (.int f) (.int l) z ∧ u = .int d ∧ Q (.bl (decide (f ≤ d) && decide (d ≤ l))) H
abbrev sp_tells (K : PySem.W.Frag) (_ : Wd) : Sp := sp_Rule_tells K
def sp_made (K : PySem.W.Frag) : Sp := Sp4 fun u x y z H Q E => CFR K ∧ ∃ w : Wd, u = .str w.word ∧ ∀ v H', Same H H' → InsAt K H' v w x y z → Q v H'
theorem g_made {K : PySem.W.Frag} {w : Wd} {x y z : V} {H : Hp} {Q : VK} {E : XK} (c : CFR K) (q : ∀ v H', Same H H' → InsAt K H' v w x y z → Q v H') : sp_made K ([.str w.word, x, y, z] ++ []) H Q E := ⟨_, _, _, _, rfl, c, w, rfl, q⟩
def wordOf (z : Str) : Option Wd := [Wd.price, .come, .go, .least, .most, .deal, .fee].find? fun w => decide (w.word = z)
/-- the rule that data tell -/
def asRule : PyData → Option RuleD
  | .tuple [.str z, .int f, .int l, d] => match wordOf z with
    | some w => if (isStr (.tuple [.int f, .int l]) && fitsD w d) = true then some ⟨w, f, l, d⟩ else none
    | none => none
  | _ => none
def sp_rule_of (K : PySem.W.Frag) : Sp := Sp1 fun x H Q E => CFR K ∧ ∃ d, At H [] x d ∧ (asRule d = none → ∀ H', Same H H' → Q .non H') ∧ ∀ r, asRule d = some r → ∀ v H', Same H H' → RuleAt K H' v r → Q v H'
theorem g_rule_of {K : PySem.W.Frag} {x : V} {d : PyData} {H : Hp} {Q : VK} {E : XK} (c : CFR K) (h : At H [] x d) (q1 : asRule d = none → ∀ H', Same H H' → Q .non H') (q2 : ∀ r, asRule d = some r → ∀ v H', Same H H' → RuleAt K H' v r → Q v H') : sp_rule_of K ([x] ++ []) H Q E := ⟨x, rfl, c, d, h, q1, q2⟩
theorem wordOf_word (w : Wd) : wordOf w.word = some w := by cases w <;> decide
theorem asRule_told {r : RuleD} (h : r.good) : asRule r.told = some r := by
  obtain ⟨h1, h2, h3, h4⟩ := h
  unfold asRule RuleD.told
  simp only [wordOf_word]
  rw [if_pos]
  rw [h4, Bool.and_true]
  show (isDay (.int r.f) && (isDay (.int r.l) && decide (r.f ≤ r.l))) = true
  unfold isDay
  simp
  omega
/-- a rule's tuple -/
def RuT (H : Hp) (v : V) (r : RuleD) : Prop := ∃ p wv, v = .ref p ∧ H p = some (.tup [.str r.w.word, .int r.f, .int r.l, wv]) ∧ Td H wv r.d
theorem RuT.tk {H H' : Hp} {v : V} {r : RuleD} (k : Tk H H') (h : RuT H v r) : RuT H' v r := let ⟨p, wv, e, h, q⟩ := h; ⟨p, wv, e, k _ _ h, q.tk k⟩
theorem RuT.td {H : Hp} {v : V} {r : RuleD} (h : RuT H v r) : Td H v r.told := by
  obtain ⟨p, wv, rfl, h, q⟩ := h
  exact .tup h (.cons (.str _) (.cons (.int _) (.cons (.int _) (.cons q .nil))))
/-! YI: the rules' defs keep what they promise. -/
open PySem PySem.Spec PyProof.Rows L2
theorem isDeal_no {ds : List PyData} (h : ds.length ≠ 2) : isDeal (.tuple ds) = false := by
  match ds, h with
  | [], _ => rfl
  | [_], _ => rfl
  | [_, _], h => exact absurd rfl h
  | _ :: b :: _ :: _, _ => cases b <;> rfl
theorem isDeal_n {a b : PyData} (h : isNights a = false) : isDeal (.tuple [a, b]) = false := by
  cases b <;> first | rfl | (show (isNights a && _) = false; rw [h]; rfl)
theorem isDeal_w {a b : PyData} (h : isW b = false) : isDeal (.tuple [a, b]) = false := by
  cases b <;> first | rfl | cases h
theorem isNights_int {d : PyData} (h : isNights d = true) : ∃ i, d = .int i := by
  cases d with
  | int i => exact ⟨i, rfl⟩
  | _ => cases h
theorem isW_int {d : PyData} (h : isW d = true) : ∃ i, d = .int i := by
  cases d with
  | int i => exact ⟨i, rfl⟩
  | _ => cases h
theorem ats2' {H : Hp} {L : List Addr} {xs : List V} {ds : List PyData} (r : Ats H L xs ds) (h : xs.length = 2) : ∃ x y a b, xs = [x, y] ∧ ds = [a, b] ∧ At H L x a ∧ At H L y b := by
  match xs, ds, r, h with
  | [x, y], [a, b], .cons h1 (.cons h2 .nil), _ => exact ⟨x, y, a, b, rfl, rfl, h1, h2⟩
theorem ats4 {H : Hp} {L : List Addr} {xs : List V} {ds : List PyData} (r : Ats H L xs ds) (h : xs.length = 4) : ∃ x y z u a b c d, xs = [x, y, z, u] ∧ ds = [a, b, c, d] ∧ At H L x a ∧ At H L y b ∧ At H L z c ∧ At H L u d := by
  match xs, ds, r, h with
  | [x, y, z, u], [a, b, c, d], .cons h1 (.cons h2 (.cons h3 (.cons h4 .nil))), _ => exact ⟨x, y, z, u, a, b, c, d, rfl, rfl, h1, h2, h3, h4⟩
theorem asRule_no {ds : List PyData} (h : ds.length ≠ 4) : asRule (.tuple ds) = none := by
  unfold asRule
  split
  · rename_i e
    injection e with e
    subst e
    exact absurd rfl h
  · rfl
theorem asRule_w {z : Str} {b c d : PyData} (h : wordOf z = none) : asRule (.tuple [.str z, b, c, d]) = none := by
  unfold asRule
  split
  · rename_i z' f l d' e
    injection e with e
    injection e with e1 e
    injection e1 with e1
    subst e1
    rw [h]
  · rfl
theorem asRule_s {z : Str} {b c d : PyData} (h : isStr (.tuple [b, c]) = false) : asRule (.tuple [.str z, b, c, d]) = none := by
  unfold asRule
  split
  · rename_i z' f l d' e
    injection e with e
    injection e with e1 e
    injection e with e2 e
    injection e with e3 e
    subst e2 e3
    split
    · rw [h, Bool.false_and, if_neg Bool.false_ne_true]
    · rfl
  · rfl
theorem isStr_int {b c : PyData} (h : isStr (.tuple [b, c]) = true) : ∃ f l, b = .int f ∧ c = .int l := by
  unfold isStr at h
  split at h
  · rename_i f l e
    injection e with e
    injection e with e1 e
    injection e with e2 e
    exact ⟨f, l, e1, e2⟩
  · cases h
theorem any_find {α : Type} (p : α → Bool) : ∀ l : List α, l.any p = (l.find? p).isSome
  | [] => rfl
  | a :: l => by
    rw [List.any_cons, List.find?_cons, any_find p l]
    cases p a <;> simp
theorem inV_words (z : Str) : inV (.str z) (wordsL.map V.str) = (wordOf z).isSome := by
  have e : wordsL = [Wd.price, .come, .go, .least, .most, .deal, .fee].map Wd.word := rfl
  unfold inV wordOf
  rw [e, List.map_map, List.any_map, ← any_find]
  congr 1
theorem wordOf_some {z : Str} {w : Wd} (h : wordOf z = some w) : z = w.word := by
  have := List.find?_some h
  exact (of_decide_eq_true this).symm
theorem td_of_fits {H : Hp} {v : V} {w : Wd} {d : PyData} (h : At H [] v d) (k : fitsD w d = true) : Td H v d := by
  cases h with
  | non => exact .non
  | bl b => exact .bl b
  | int i => exact .int i
  | str z => exact .str z
  | lst n h r => cases w <;> cases k
  | @tup a xs ds n h r =>
    have hd : isDeal (.tuple ds) = true := by cases w <;> first | exact k | cases k
    by_cases hl : ds.length = 2
    · obtain ⟨x, y, p, q, rfl, rfl, hx, hy⟩ := ats2' r (by rw [Ats.len r]; exact hl)
      have hp : isNights p = true := by
        cases e : isNights p with
        | true => rfl
        | false => rw [isDeal_n e] at hd; cases hd
      have hq : isW q = true := by
        cases e : isW q with
        | true => rfl
        | false => rw [isDeal_w e] at hd; cases hd
      obtain ⟨i, rfl⟩ := isNights_int hp
      obtain ⟨j, rfl⟩ := isW_int hq
      cases hx
      cases hy
      exact .tup h (.cons (.int i) (.cons (.int j) .nil))
    · rw [isDeal_no hl] at hd; cases hd
def t_Rule_init (K : PySem.W.Frag) : TS :=
  (tSeq (sFld K (tVar 0) (tVar 1) "first")
  (tSeq (sFld K (tVar 0) (tVar 2) "last")
  (sFld K (tVar 0) (tVar 3) "worth")))
theorem pure_Rule_init {K : PySem.W.Frag} {v x y z : V} {H : Hp} {Q : VK} {E : XK} (h : sp_Rule_init K [v, x, y, z] H Q E) : t_Rule_init K { nx := fun _ H' => Q .non H', rt := Q } [some v, some x, some y, some z] H := by
  obtain ⟨v, x, y, z, e, c, a, dx, w, rfl, h, q⟩ := h
  cases e
  have n1 := CFR.no c w (f := "first") (by decide)
  have n2 := CFR.no c w (f := "last") (by decide)
  have n3 := CFR.no c w (f := "worth") (by decide)
  refine ⟨x, rfl, _, rfl, a, _, dx, _, rfl, h, CFR.cls c w, n1, (show (0 : Nat) < 1000 by decide), y, rfl, _, rfl, a, _, dx, _, rfl, upd_same, CFR.cls c w, n2, (show (1 : Nat) < 1000 by decide), z, rfl, _, rfl, a, _, dx, _, rfl, upd_same, CFR.cls c w, n3, (show (2 : Nat) < 1000 by decide), ?_⟩
  rw [upd_upd, upd_upd]
  exact q
def t_Rule_told (K : PySem.W.Frag) : TS :=
  (tRet (tTup (tCons (tRule K "word" (sp_word K) (tVar 0) tNil) (tCons (tFld K (tVar 0) "first") (tCons (tFld K (tVar 0) "last") (tCons (tFld K (tVar 0) "worth") tNil))))))
theorem pure_Rule_told {K : PySem.W.Frag} {v : V} {H : Hp} {Q : VK} {E : XK} (h : sp_Rule_told K [v] H Q E) : t_Rule_told K { nx := fun _ H' => Q .non H', rt := Q } [some v] H := by
  obtain ⟨v, e, c, w, x, y, z, i, q⟩ := h
  cases e
  unfold t_Rule_told
  walk_at "ss"
  rename_i p hp
  exact q p _ (same_new hp) hp upd_same
def t_Rule_tells (K : PySem.W.Frag) : TS :=
  (tRet (tChain rLe rLe (tFld K (tVar 0) "first") (tVar 1) (tFld K (tVar 0) "last")))
def t_Price_word (K : PySem.W.Frag) : TS :=
  (tRet (tC (.str "price")))
theorem pure_Price_word {K : PySem.W.Frag} {v : V} {H : Hp} {Q : VK} {E : XK} (h : sp_Price_word K [v] H Q E) : t_Price_word K { nx := fun _ H' => Q .non H', rt := Q } [some v] H := by
  obtain ⟨v, e, q⟩ := h
  cases e
  exact q
def t_Come_word (K : PySem.W.Frag) : TS :=
  (tRet (tC (.str "come")))
theorem pure_Come_word {K : PySem.W.Frag} {v : V} {H : Hp} {Q : VK} {E : XK} (h : sp_Come_word K [v] H Q E) : t_Come_word K { nx := fun _ H' => Q .non H', rt := Q } [some v] H := by
  obtain ⟨v, e, q⟩ := h
  cases e
  exact q
def t_Go_word (K : PySem.W.Frag) : TS :=
  (tRet (tC (.str "go")))
theorem pure_Go_word {K : PySem.W.Frag} {v : V} {H : Hp} {Q : VK} {E : XK} (h : sp_Go_word K [v] H Q E) : t_Go_word K { nx := fun _ H' => Q .non H', rt := Q } [some v] H := by
  obtain ⟨v, e, q⟩ := h
  cases e
  exact q
def t_Least_word (K : PySem.W.Frag) : TS :=
  (tRet (tC (.str "least")))
theorem pure_Least_word {K : PySem.W.Frag} {v : V} {H : Hp} {Q : VK} {E : XK} (h : sp_Least_word K [v] H Q E) : t_Least_word K { nx := fun _ H' => Q .non H', rt := Q } [some v] H := by
  obtain ⟨v, e, q⟩ := h
  cases e
  exact q
def t_Most_word (K : PySem.W.Frag) : TS :=
  (tRet (tC (.str "most")))
theorem pure_Most_word {K : PySem.W.Frag} {v : V} {H : Hp} {Q : VK} {E : XK} (h : sp_Most_word K [v] H Q E) : t_Most_word K { nx := fun _ H' => Q .non H', rt := Q } [some v] H := by
  obtain ⟨v, e, q⟩ := h
  cases e
  exact q
def t_Deal_word (K : PySem.W.Frag) : TS :=
  (tRet (tC (.str "deal")))
theorem pure_Deal_word {K : PySem.W.Frag} {v : V} {H : Hp} {Q : VK} {E : XK} (h : sp_Deal_word K [v] H Q E) : t_Deal_word K { nx := fun _ H' => Q .non H', rt := Q } [some v] H := by
  obtain ⟨v, e, q⟩ := h
  cases e
  exact q
def t_Fee_word (K : PySem.W.Frag) : TS :=
  (tRet (tC (.str "fee")))
theorem pure_Fee_word {K : PySem.W.Frag} {v : V} {H : Hp} {Q : VK} {E : XK} (h : sp_Fee_word K [v] H Q E) : t_Fee_word K { nx := fun _ H' => Q .non H', rt := Q } [some v] H := by
  obtain ⟨v, e, q⟩ := h
  cases e
  exact q
def t_Price_fits (K : PySem.W.Frag) : TS :=
  (tRet (tOrV (tOp rIsN (tFld K (tVar 0) "worth") (tC .non)) (tCall (sp_is_coins K) [] E0 (tCons (tFld K (tVar 0) "worth") tNil))))
theorem pure_Price_fits {K : PySem.W.Frag} {v : V} {H : Hp} {Q : VK} {E : XK} (h : sp_Price_fits K [v] H Q E) : t_Price_fits K { nx := fun _ H' => Q .non H', rt := Q } [some v] H := by
  obtain ⟨v, e, c, x, y, z, d, i, h, q⟩ := h
  cases e
  unfold t_Price_fits
  walk_at "ss"
  cases h with
  | non =>
    refine ite_t rfl ?_
    exact q
  | _ =>
    refine ite_f rfl ?_
    walk_at "ss"
    exact q
def t_Come_fits (K : PySem.W.Frag) : TS :=
  (tRet (tCB (rIsi K) (tCons (tFld K (tVar 0) "worth") (tCons (tC (.ty "bool")) tNil))))
theorem pure_Come_fits {K : PySem.W.Frag} {v : V} {H : Hp} {Q : VK} {E : XK} (h : sp_Come_fits K [v] H Q E) : t_Come_fits K { nx := fun _ H' => Q .non H', rt := Q } [some v] H := by
  obtain ⟨v, e, c, x, y, z, d, i, h, q⟩ := h
  cases e
  unfold t_Come_fits
  walk_at "ss"
  cases h <;> (walk_at "ss"; exact q)
def t_Go_fits (K : PySem.W.Frag) : TS :=
  (tRet (tCB (rIsi K) (tCons (tFld K (tVar 0) "worth") (tCons (tC (.ty "bool")) tNil))))
theorem pure_Go_fits {K : PySem.W.Frag} {v : V} {H : Hp} {Q : VK} {E : XK} (h : sp_Go_fits K [v] H Q E) : t_Go_fits K { nx := fun _ H' => Q .non H', rt := Q } [some v] H := by
  obtain ⟨v, e, c, x, y, z, d, i, h, q⟩ := h
  cases e
  unfold t_Go_fits
  walk_at "ss"
  cases h <;> (walk_at "ss"; exact q)
def t_Least_fits (K : PySem.W.Frag) : TS :=
  (tRet (tCall (sp_is_nights K) [] E0 (tCons (tFld K (tVar 0) "worth") tNil)))
theorem pure_Least_fits {K : PySem.W.Frag} {v : V} {H : Hp} {Q : VK} {E : XK} (h : sp_Least_fits K [v] H Q E) : t_Least_fits K { nx := fun _ H' => Q .non H', rt := Q } [some v] H := by
  obtain ⟨v, e, c, x, y, z, d, i, h, q⟩ := h
  cases e
  unfold t_Least_fits
  walk_at "ss"
  exact q
def t_Most_fits (K : PySem.W.Frag) : TS :=
  (tRet (tCall (sp_is_nights K) [] E0 (tCons (tFld K (tVar 0) "worth") tNil)))
theorem pure_Most_fits {K : PySem.W.Frag} {v : V} {H : Hp} {Q : VK} {E : XK} (h : sp_Most_fits K [v] H Q E) : t_Most_fits K { nx := fun _ H' => Q .non H', rt := Q } [some v] H := by
  obtain ⟨v, e, c, x, y, z, d, i, h, q⟩ := h
  cases e
  unfold t_Most_fits
  walk_at "ss"
  exact q
def t_Deal_fits (K : PySem.W.Frag) : TS :=
  (tSeq (tIfS (tTest (tOp rIsN (tFld K (tVar 0) "worth") (tC .non)))
  (tRet (tC (.bl true)))
  tNext)
  (tSeq (tIfS (tOr (tNot (tB (tCB (rIsi K) (tCons (tFld K (tVar 0) "worth") (tCons (tC (.ty "tuple")) tNil))))) (tTest (tOp rNe (tCB (rLenA K) (tCons (tFld K (tVar 0) "worth") tNil)) (tC (.int 2)))))
  (tRet (tC (.bl false)))
  tNext)
  (tSeq (tAsg (tFld K (tVar 0) "worth") (gTup K 2 (gCons (gName 1) (gCons (gName 2) gNil))))
  (tRet (tAndV (tCall (sp_is_nights K) [] E0 (tCons (tVar 1) tNil)) (tAndV (tCall (sp_is_whole K) [] E0 (tCons (tVar 2) tNil)) (tChain rLe rLt (tC (.int 1)) (tVar 2) (tVar 1))))))))
theorem pure_Deal_fits {K : PySem.W.Frag} {v : V} {H : Hp} {Q : VK} {E : XK} (h : sp_Deal_fits K [v] H Q E) : t_Deal_fits K { nx := fun _ H' => Q .non H', rt := Q } [some v, none, none] H := by
  obtain ⟨v, e, c, x, y, z, d, i, h, q⟩ := h
  cases e
  unfold t_Deal_fits
  walk_at "ss"
  cases h with
  | non =>
    refine ite_t rfl ?_
    exact q
  | tup n h r =>
    refine ite_f rfl ?_
    walk_at "ss"
    refine g_lenA (.inr ⟨_, SqT.of h, rfl⟩) ?_
    walk_at "ss"
    refine ite_nd (fun h1 => ?_) fun h1 => ?_
    · have hl := V.int.inj h1
      obtain ⟨x', y', a, b, rfl, rfl, hx, hy⟩ := ats2' r (by omega)
      walk_at "ss"
      refine ite_b (fun h2 => ?_) fun h2 => ?_
      · walk_at "ss"
        refine ite_b (fun h3 => ?_) fun h3 => ?_
        · obtain ⟨m, rfl⟩ := isNights_int h2
          obtain ⟨f, rfl⟩ := isW_int h3
          cases hx
          cases hy
          have q' : Q (.bl (isNights (.int m) && (decide (1 ≤ f) && decide (f < m)))) H := q
          rw [h2, Bool.true_and] at q'
          walk_at "ss"
          refine ite_b (fun h4 => ?_) fun h4 => ?_
          · walk_at "ss"
            exact and_t h4 q'
          · exact and_f h4 q'
        · have e : fitsD .deal (.tuple [a, b]) = false := isDeal_w h3
          rw [e] at q
          exact q
      · have e : fitsD .deal (.tuple [a, b]) = false := isDeal_n h2
        rw [e] at q
        exact q
    · have e : fitsD .deal (.tuple _) = false := isDeal_no (ds := _) fun z => h1 (by rw [Ats.len r, z]; rfl)
      rw [e] at q
      walk_at "ss"
      exact q
  | _ =>
    refine ite_f rfl ?_
    walk_at "ss"
    exact q
def t_Fee_fits (K : PySem.W.Frag) : TS :=
  (tRet (tCall (sp_is_coins K) [] E0 (tCons (tFld K (tVar 0) "worth") tNil)))
theorem pure_Fee_fits {K : PySem.W.Frag} {v : V} {H : Hp} {Q : VK} {E : XK} (h : sp_Fee_fits K [v] H Q E) : t_Fee_fits K { nx := fun _ H' => Q .non H', rt := Q } [some v] H := by
  obtain ⟨v, e, c, x, y, z, d, i, h, q⟩ := h
  cases e
  unfold t_Fee_fits
  walk_at "ss"
  exact q
def t_made (K : PySem.W.Frag) : TS :=
  (tSeq (tIfS (tTest (tOp rEq (tVar 0) (tC (.str "price"))))
  (tRet (tMake (He.ga K "Price") (sp_Rule_init K) [] E0 (tCons (tVar 1) (tCons (tVar 2) (tCons (tVar 3) tNil)))))
  tNext)
  (tSeq (tIfS (tTest (tOp rEq (tVar 0) (tC (.str "come"))))
  (tRet (tMake (He.ga K "Come") (sp_Rule_init K) [] E0 (tCons (tVar 1) (tCons (tVar 2) (tCons (tVar 3) tNil)))))
  tNext)
  (tSeq (tIfS (tTest (tOp rEq (tVar 0) (tC (.str "go"))))
  (tRet (tMake (He.ga K "Go") (sp_Rule_init K) [] E0 (tCons (tVar 1) (tCons (tVar 2) (tCons (tVar 3) tNil)))))
  tNext)
  (tSeq (tIfS (tTest (tOp rEq (tVar 0) (tC (.str "least"))))
  (tRet (tMake (He.ga K "Least") (sp_Rule_init K) [] E0 (tCons (tVar 1) (tCons (tVar 2) (tCons (tVar 3) tNil)))))
  tNext)
  (tSeq (tIfS (tTest (tOp rEq (tVar 0) (tC (.str "most"))))
  (tRet (tMake (He.ga K "Most") (sp_Rule_init K) [] E0 (tCons (tVar 1) (tCons (tVar 2) (tCons (tVar 3) tNil)))))
  tNext)
  (tSeq (tIfS (tTest (tOp rEq (tVar 0) (tC (.str "deal"))))
  (tRet (tMake (He.ga K "Deal") (sp_Rule_init K) [] E0 (tCons (tVar 1) (tCons (tVar 2) (tCons (tVar 3) tNil)))))
  tNext)
  (tRet (tMake (He.ga K "Fee") (sp_Rule_init K) [] E0 (tCons (tVar 1) (tCons (tVar 2) (tCons (tVar 3) tNil)))))))))))
theorem pure_made {K : PySem.W.Frag} {u x y z : V} {H : Hp} {Q : VK} {E : XK} (h : sp_made K [u, x, y, z] H Q E) : t_made K { nx := fun _ H' => Q .non H', rt := Q } [some u, some x, some y, some z] H := by
  obtain ⟨u, x, y, z, e, c, w, rfl, q⟩ := h
  cases e
  unfold t_made
  cases w <;> (walk_at "ss"; repeat (first | (refine ite_dt rfl ?_; walk_at "ss") | (refine ite_df (by decide) ?_; walk_at "ss"))) <;> exact q _ _ (by assumption) (by assumption)
def t_rule_of (K : PySem.W.Frag) : TS :=
  (tSeq (tIfS (tOr (tNot (tB (tCB (rIsi K) (tCons (tVar 0) (tCons (tC (.ty "tuple")) tNil))))) (tOr (tTest (tOp rNe (tCB (rLen K) (tCons (tVar 0) tNil)) (tC (.int 4)))) (tOr (tNot (tB (tCB (rIsi K) (tCons (tOp (rIxT K) (tVar 0) (tC (.int 0))) (tCons (tC (.ty "str")) tNil))))) (tTest (tOp (rIn K true) (tOp (rIxT K) (tVar 0) (tC (.int 0))) (tC (.ref (He.ga K "WORDS"))))))))
  (tRet (tC .non))
  tNext)
  (tSeq (tIfS (tNot (tB (tCall (sp_is_stretch K) [] E0 (tCons (tTup (tCons (tOp (rIxT K) (tVar 0) (tC (.int 1))) (tCons (tOp (rIxT K) (tVar 0) (tC (.int 2))) tNil))) tNil))))
  (tRet (tC .non))
  tNext)
  (tSeq (tAsg (tCall (sp_made K) [] E0 (tCons (tOp (rIxT K) (tVar 0) (tC (.int 0))) (tCons (tOp (rIxT K) (tVar 0) (tC (.int 1))) (tCons (tOp (rIxT K) (tVar 0) (tC (.int 2))) (tCons (tOp (rIxT K) (tVar 0) (tC (.int 3))) tNil))))) (gName 1))
  (tSeq (tIfS (tNot (tB (tRule K "fits" (sp_fits K) (tVar 1) tNil)))
  (tRet (tC .non))
  tNext)
  (tRet (tVar 1))))))
theorem pure_rule_of {K : PySem.W.Frag} {x : V} {H : Hp} {Q : VK} {E : XK} (h : sp_rule_of K [x] H Q E) : t_rule_of K { nx := fun _ H' => Q .non H', rt := Q } [some x, none] H := by
  obtain ⟨x, e, c, d, h, q1, q2⟩ := h
  cases e
  unfold t_rule_of
  cases h with
  | tup n h r =>
    walk_at "ss"
    refine ite_nd (fun h1 => ?_) fun h1 => ?_
    · have hl := V.int.inj h1
      obtain ⟨x0, x1, x2, x3, a0, a1, a2, a3, rfl, rfl, k0, k1, k2, k3⟩ := ats4 r (by omega)
      cases k0 with
      | str z =>
        walk_at "ss"
        refine ⟨_, _, rfl, .inr (CFR.words c _), rfl, by decide, ?_⟩
        rw [inV_words]
        walk_at "ss"
        cases ew : wordOf z with
        | none =>
          refine ite_t rfl ?_
          walk_at "ss"
          exact q1 (asRule_w ew) _ (Same.refl _)
        | some w =>
          obtain rfl := wordOf_some ew
          refine ite_f rfl ?_
          walk_at "ss"
          rename_i p hp
          refine ite_b (fun h4 => ?_) fun h4 => ?_
          · walk_at "ss"
            exact q1 (asRule_s (by simpa using h4)) _ (same_new hp)
          · have h5 : isStr (.tuple [a1, a2]) = true := by simpa using h4
            obtain ⟨f, l, rfl, rfl⟩ := isStr_int h5
            cases k1
            cases k2
            walk_at "ss"
            refine g_made c fun v H' hs hi => ?_
            walk_at "ss"
            have eR : asRule (.tuple [.str w.word, .int f, .int l, a3]) = if (isStr (.tuple [.int f, .int l]) && fitsD w a3) = true then some ⟨w, f, l, a3⟩ else none := by
              unfold asRule
              simp only [ew]
            rw [h5, Bool.true_and] at eR
            refine ite_b (fun h6 => ?_) fun h6 => ?_
            · walk_at "ss"
              refine q1 ?_ _ (by walk_at "sm")
              rw [eR, if_neg (by simpa using h6)]
            · walk_at "ss"
              have h7 : fitsD w a3 = true := by simpa using h6
              refine q2 ⟨w, f, l, a3⟩ ?_ v _ (by walk_at "sm") (RuleAt.of hi (td_of_fits (by walk_at "ad") h7))
              rw [eR, if_pos h7]
      | _ =>
        walk_at "ss"
        exact q1 rfl _ (Same.refl _)
    · walk_at "ss"
      exact q1 (asRule_no fun z => h1 (by rw [Ats.len r, z]; rfl)) _ (Same.refl _)
  | _ =>
    walk_at "ss"
    exact q1 rfl _ (Same.refl _)
/-! YQ: books in the heap. -/
open PySem PySem.Spec PyProof.Rows L2
/-- what is told of the class of books -/
def CFB (K : PySem.W.Frag) : Prop := exBook K = true
/-- objects and tuples stay -/
structure Ik (H H' : Hp) : Prop where
  ins : ∀ a C dx fs, H a = some (.ins C dx fs) → H' a = some (.ins C dx fs)
  tup : Tk H H'
theorem Ik.trans {H H1 H2 : Hp} (a : Ik H H1) (b : Ik H1 H2) : Ik H H2 := ⟨fun x C dx fs h => b.ins x C dx fs (a.ins x C dx fs h), a.tup.trans b.tup⟩
abbrev RulesAt (K : PySem.W.Frag) (H : Hp) : List V → List RuleD → Prop := Paired (RuleAt K H)
/-- the rules of a word, the newest first -/
def newestOf (rs : List RuleD) (w : Wd) : List RuleD := (rs.filter fun r => decide (r.w = w)).reverse
/-- a book's parts -/
structure BookIn (K : PySem.W.Frag) (H : Hp) (a dx lk nd : Addr) (kvs : List (Key × V)) (nw : Wd → Option Addr) (rs : List RuleD) : Prop where
  obj : H a = some (.ins (He.ga K "Book") dx [("kept", .ref lk), ("newest", .ref nd)])
  kept : ∃ ks, H lk = some (.lst ks) ∧ RulesAt K H ks rs
  dic : H nd = some (.dK kvs)
  small : kvs.length ≤ rs.length
  key : ∀ w : Wd, valV kvs (.inr w.word) = (nw w).map V.ref
  here : ∀ w l, nw w = some l → ∃ xs, H l = some (.lst xs) ∧ RulesAt K H xs (newestOf rs w)
  none' : ∀ w, nw w = none → newestOf rs w = []
  inj : ∀ w w' l, nw w = some l → nw w' = some l → w = w'
  ne : ∀ w l, nw w = some l → l ≠ lk
theorem Wd.word_inj {w v : Wd} (h : w.word = v.word) : w = v := by
  have h1 := wordOf_word w
  rw [h, wordOf_word] at h1
  exact (Option.some.inj h1).symm
/-- the lists of a book -/
def BookF (lk : Addr) (nw : Wd → Option Addr) : List Addr := lk :: [Wd.price, .come, .go, .least, .most, .deal, .fee].filterMap nw
/-- a book; F: its lists -/
def BookAt (K : PySem.W.Frag) (H : Hp) (F : List Addr) (v : V) (rs : List RuleD) : Prop := ∃ a dx lk nd kvs nw, v = .ref a ∧ F = BookF lk nw ∧ BookIn K H a dx lk nd kvs nw rs
/-! YS: what a book's defs promise, and that they keep it. -/
open PySem PySem.Spec PyProof.Rows L2
/-- a raise that is never reached -/
def tNever : TS := fun _ _ _ => False
def usualD : Wd → PyData
  | .price => .none | .come => .bool true | .go => .bool true | .least => .int 1 | .most => .int 14 | .deal => .none | .fee => .int 0
def usualV : Wd → V
  | .price => .non | .come => .bl true | .go => .bl true | .least => .int 1 | .most => .int 14 | .deal => .non | .fee => .int 0
def tellsD (rs : List RuleD) (w : Wd) (day : Int) : PyData := match (newestOf rs w).find? fun r => decide (r.f ≤ day) && decide (day ≤ r.l) with
  | some r => r.d
  | none => usualD w
def sp_usual (K : PySem.W.Frag) : Sp := Sp1 fun x H Q E => ∃ w : Wd, x = .str w.word ∧ Q (usualV w) H
def sp_Book_rules (K : PySem.W.Frag) : Sp := Sp1 fun v H Q E => CFR K ∧ CFB K ∧ ∃ F rs, BookAt K H F v rs ∧ rs.length ≤ 1000 ∧ ∀ p H' ys, Same H H' → Fr H p → H' p = some (.lst ys) → Paired (RuT H') ys rs → Q (.ref p) H'
def sp_Book_tells_of (K : PySem.W.Frag) : Sp := Sp3 fun v u y H Q E => CFR K ∧ CFB K ∧ ∃ F rs w day, BookAt K H F v rs ∧ u = .str w.word ∧ y = .int day ∧ ∀ x H', Same H H' → Td H' x (tellsD rs w day) → Q x H'
def sp_Book_init (K : PySem.W.Frag) : Sp := Sp2 fun v y H Q E => CFR K ∧ CFB K ∧ ∃ (a dx : Addr) (xs : List V) (rs : List RuleD), v = .ref a ∧ H a = some (.ins (He.ga K "Book") dx []) ∧ ((y = .non ∧ xs = []) ∨ ∃ p, y = .ref p ∧ SqL K H p xs) ∧ Paired (RuT H) xs rs ∧ rs.length ≤ 24 ∧ (∀ r ∈ rs, RuleD.good r) ∧
  ∀ H' F, Kp [a] H H' → BookAt K H' F v rs → (∀ p ∈ F, Fr H p) → Q .non H'
/-- a field is written -/
def rSF (K : PySem.W.Frag) (f : Str) (x y : V) (H2 : Hp) (Q : Hp → Prop) : Prop := ∃ a C dx fs, x = .ref a ∧ H2 a = some (.ins C dx fs) ∧ Cls K C ∧ NoAttr K C f ∧ fs.length < 1000 ∧ Q (upd H2 a (.ins C dx (putF f y fs)))
/-! YU: lists of drawn rules. -/
open PySem PySem.Spec PyProof.Rows L2
theorem isCoins_b {d : PyData} (h : isCoins d = true) : ∃ i, d = .int i ∧ 0 ≤ i ∧ i ≤ 1000000000000 := by
  cases d with
  | int i =>
    have h' : (decide (0 ≤ i) && decide (i ≤ 1000000000000)) = true := h
    simp at h'
    exact ⟨i, rfl, h'⟩
  | _ => cases h
theorem isNights_b {d : PyData} (h : isNights d = true) : ∃ i, d = .int i ∧ 1 ≤ i ∧ i ≤ 14 := by
  cases d with
  | int i =>
    have h' : (decide (1 ≤ i) && decide (i ≤ 14)) = true := h
    simp at h'
    exact ⟨i, rfl, h'⟩
  | _ => cases h
theorem isDeal_ex {d : PyData} (h : isDeal d = true) : d = .none ∨ ∃ m f, d = .tuple [.int m, .int f] ∧ 1 ≤ m ∧ m ≤ 14 ∧ 1 ≤ f ∧ f < m := by
  cases d with
  | none => exact .inl rfl
  | tuple ds =>
    refine .inr ?_
    by_cases hl : ds.length = 2
    · match ds, hl with
      | [p, q], _ =>
        have hp : isNights p = true := by
          cases e : isNights p with
          | true => rfl
          | false => rw [isDeal_n e] at h; cases h
        have hq : isW q = true := by
          cases e : isW q with
          | true => rfl
          | false => rw [isDeal_w e] at h; cases h
        obtain ⟨m, rfl, m0, m1⟩ := isNights_b hp
        obtain ⟨f, rfl⟩ := isW_int hq
        have h' : (isNights (.int m) && (decide (1 ≤ f) && decide (f < m))) = true := h
        rw [hp] at h'
        simp at h'
        exact ⟨m, f, rfl, m0, m1, h'⟩
    · rw [isDeal_no hl] at h; cases h
  | _ => cases h
def Rus (H : Hp) (xs : List V) (rs : List RuleD) : Prop := Paired (RuT H) xs rs
/-- a method of what an expression makes -/
def rObj (C : Addr) (m : Str) (x : V) (H1 : Hp) (R : Hp → Prop) : Prop := ∃ a dx fs, x = .ref a ∧ H1 a = some (.ins C dx fs) ∧ fs.lookup m = none ∧ R H1
theorem g_slTo {K : PySem.W.Frag} {H : Hp} {Q : VK} {p : Addr} {xs : List V} {n : Int} (hn : 0 ≤ n) (h : SqL K H p xs) (q : ∀ a, Fr H a → Q (.ref a) (upd H a (.lst (xs.take n.toNat)))) : rSlL K (.ref p) none (some n) H Q := g_slL h fun a ha => by
  rw [cut_to hn]; exact q a ha
theorem g_slFrom {K : PySem.W.Frag} {H : Hp} {Q : VK} {p : Addr} {xs : List V} {n : Int} (hn : 0 ≤ n) (h : SqL K H p xs) (q : ∀ a, Fr H a → Q (.ref a) (upd H a (.lst (xs.drop n.toNat)))) : rSlL K (.ref p) (some n) none H Q := g_slL h fun a ha => by
  rw [cut_from hn]; exact q a ha
/-- comprehensions of drawn things -/
theorem lc_dr {t b s : Addr} {lo : Int} {n : Nat} {g : TG} {tt : TT} {te : TE} {vs : List Nat} {σ : L2.St} {H1 : Hp} {Qf : Addr → Hp → Prop} {β : Type} (T1 : Tape H1 t b s) (R : Hp → V → β → Prop) (hR : ∀ G G' v b, Tk G G' → R G v b → R G' v b) (P : β → Prop) (hn : n < 100000)
    (hs : ∀ (D : Addr) i H (N : Hp → Prop) acc, Fr H1 D → i < n → Tape H t b s → H D = some (.lst acc) → D ∉ [t, b] → (∀ y z H4, R H4 y z → P z → Tape H4 t b s → Kp [t, b] H H4 → ∃ acc, H4 D = some (.lst acc) ∧ acc.length < sizeLine ∧ N (upd H4 D (.lst (acc ++ [y])))) →
      g (.int (lo + i)) (wipe σ vs) H fun σ2 H2 => wipe σ2 vs = wipe σ vs ∧ tt σ2 H2 fun b H3 =>
        if b = true then te σ2 H3 fun y H4 => ∃ acc, H4 D = some (.lst acc) ∧ acc.length < sizeLine ∧ N (upd H4 D (.lst (acc ++ [y]))) else N H3)
    (hd : ∀ D H' (ys : List V) (zs : List β), Fr H1 D → Tape H' t b s → Kp [t, b] H1 H' → H' D = some (.lst ys) → Paired (R H') ys zs → zs.length = n → (∀ z ∈ zs, P z) → Qf D H') :
    ∀ D, Fr H1 D → ∃ W : Nat → Nat → Hp → Prop, (∃ m, W 0 m (upd H1 D (.lst []))) ∧ ∀ i m H, W i m H →
      ((Itr lo n).stop i H ∧ Qf D H) ∨ ((Itr lo n).go i H ∧ ∃ Nx : Hp → Prop, (∀ H', Nx H' → ∃ m', m' < m ∧ W (i + 1) m' H') ∧ ∀ x H', (Itr lo n).yld i H x H' → g x (wipe σ vs) H' fun σ2 H2 => wipe σ2 vs = wipe σ vs ∧ tt σ2 H2 fun b H3 =>
        if b = true then te σ2 H3 fun y H4 => ∃ acc, H4 D = some (.lst acc) ∧ acc.length < sizeLine ∧ Nx (upd H4 D (.lst (acc ++ [y]))) else Nx H3) := fun D hD => by
  have nD : D ∉ [t, b] := ni_tape hD T1
  refine lc_it walk_range (fun i H => Tape H t b s ∧ Kp [t, b] H1 H ∧ ∃ ys zs, H D = some (.lst ys) ∧ Paired (R H) ys zs ∧ zs.length = i ∧ ∀ z ∈ zs, P z) ⟨tape_new hD T1, kp_own hD (Kp.refl _ _), [], [], upd_same, .nil, rfl, by simp⟩ (fun i H _ h => trivial) (fun i x H H' hi ⟨T, k, ys, zs, ha, hr, hl, hp⟩ y => ?_) fun H ⟨T, k, ys, zs, ha, hr, hl, hp⟩ => hd D H ys zs hD T k ha hr hl hp
  obtain ⟨rfl, rfl⟩ := y
  refine hs D i H' _ _ hD hi T ha nD fun y z H4 hy hz T4 k4 => ⟨ys, k4 _ _ ha nD, by rw [Paired.length hr, sizeLine_eq]; omega, tape_own hD T1 T4, kp_own hD (k.trans k4), ys ++ [y], zs ++ [z], upd_same, ?_, by simp [hl], fun x hx => ?_⟩
  · have tk : Tk H4 (upd H4 D (.lst (ys ++ [y]))) := tk_put (k4 _ _ ha nD)
    exact Paired.app (Paired.mapP hr fun _ _ q => hR _ _ _ _ ((tk_kp T k4).trans tk) q) (.cons (hR _ _ _ _ tk hy) .nil)
  rcases List.mem_append.mp hx with hx | hx
  · exact hp x hx
  · rw [List.mem_singleton.mp hx]; exact hz
/-! YV: the worth that is due. -/
open PySem PySem.Spec PyProof.Rows L2
def dueD (rs : List RuleD) (w : Wd) (day : Int) : PyData := rs.foldl (fun d r => if r.w = w ∧ r.f ≤ day ∧ day ≤ r.l then r.d else d) (usualD w)
/-! YC: lists of data; what a book tells is of the word's kind. -/
open PySem PySem.Spec PyProof.Rows L2
theorem tds_len {H : Hp} : ∀ {xs : List V} {ds : List PyData}, Tds H xs ds → xs.length = ds.length
  | _, _, .nil => rfl
  | _, _, .cons a b => by simp [tds_len b]
theorem tds_get {H : Hp} : ∀ {xs : List V} {ds : List PyData}, Tds H xs ds → ∀ {i : Nat} {x : V}, xs[i]? = some x → ∃ d, ds[i]? = some d ∧ Td H x d
  | _, _, .nil, i, x, h => by simp at h
  | _, _, .cons a b, 0, x, h => by
    simp at h
    subst h
    exact ⟨_, by simp, a⟩
  | _, _, .cons a b, i + 1, x, h => by
    obtain ⟨d, h1, h2⟩ := tds_get b (i := i) (by simpa using h)
    exact ⟨d, by simpa using h1, h2⟩
theorem g_slMid {K : PySem.W.Frag} {H : Hp} {Q : VK} {p : Addr} {xs : List V} {n m : Int} (hn : 0 ≤ n) (hm : 0 ≤ m) (h : SqL K H p xs) (q : ∀ a, Fr H a → Q (.ref a) (upd H a (.lst ((xs.take m.toNat).drop n.toNat)))) : rSlL K (.ref p) (some n) (some m) H Q := g_slL h fun a ha => by
  rw [cut_mid hn hm]; exact q a ha
/-- a value's truth (the hand layer's own word is an abbreviation) -/
def tTru (K : PySem.W.Frag) (ta : TE) : TT := fun σ H Q => ta σ H fun x H1 => ∃ k, TruV K x H1 k ∧ Q k H1
def rTru (K : PySem.W.Frag) (x : V) (H : Hp) (Q : Bool → Hp → Prop) : Prop := ∃ k, TruV K x H k ∧ Q k H
/-- x is True, x is False -/
def rIsB : R2 := fun x y H Q => ∃ b c, x = .bl b ∧ y = .bl c ∧ Q (.bl (decide (b = c))) H
/-- the worths of a book, by word -/
def comeB (rs : List RuleD) (w : Wd) (day : Int) : Bool := match tellsD rs w day with | .bool b => b | _ => true
def numI (rs : List RuleD) (w : Wd) (day : Int) : Int := match tellsD rs w day with | .int i => i | _ => 0
def soldB (rs : List RuleD) (day : Int) : Bool := !isNone (tellsD rs .price day)
/-! YFg: figures, words and rules as texts: plain law. -/
open PySem PySem.Spec PyProof.Rows L2 TL
/-- a number's figures -/
def figS (n : Nat) : Str := Str.ofString (toString ((n : Nat) : Int))
theorem tl_fig (n : Nat) : tl (figS n) = numL n := tl_num n
theorem fig_inj {m n : Nat} (h : figS m = figS n) : m = n := numL_inj (by rw [← tl_fig, ← tl_fig, h])
theorem fig_free {n s : Nat} (h : s < 48 ∨ 57 < s) : s ∉ tl (figS n) := by rw [tl_fig]; exact numL_free h
theorem fig_len {n k : Nat} (hk : 0 < k) (h : n < 10 ^ k) : (figS n).length ≤ k := by rw [len_tl, tl_fig]; exact numL_len hk h
/-- a word that writes a number as it is written -/
def digB (c : Nat) : Bool := decide (48 ≤ c) && decide (c ≤ 57)
def canB (l : List Nat) : Bool := l.all digB && (!l.isEmpty && (!decide (l.head? = some 48) || decide (l = [48])))
theorem all_dig {l : List Nat} : l.all digB = true ↔ NumText.AllDigits l := by
  rw [List.all_eq_true]
  constructor
  · intro h c hc
    have := h c hc
    unfold digB at this
    rw [Bool.and_eq_true, decide_eq_true_eq, decide_eq_true_eq] at this
    exact this
  · intro h c hc
    have := h c hc
    unfold digB
    rw [Bool.and_eq_true, decide_eq_true_eq, decide_eq_true_eq]
    exact this
theorem numL_head (n : Nat) : (numL n).head? = some 48 → n = 0 := by
  induction n using Nat.strongRecOn with
  | _ n ih =>
    intro h
    by_cases z : n < 10
    · rw [numL_lt z] at h
      have : 48 + n = 48 := Option.some.inj h
      omega
    · rw [numL_step (by omega)] at h
      have ne := numL_ne (n / 10)
      have hh : (numL (n / 10)).head? = some 48 := by
        cases e : numL (n / 10) with
        | nil => exact absurd e ne
        | cons a l => rw [e] at h; exact h
      have := ih (n / 10) (by omega) hh
      omega
theorem can_num (n : Nat) : canB (numL n) = true := by
  unfold canB
  rw [Bool.and_eq_true, Bool.and_eq_true]
  refine ⟨all_dig.mpr (numL_digits n), ?_, ?_⟩
  · have := numL_ne n
    cases h : numL n with
    | nil => exact absurd h this
    | cons a l => rfl
  · by_cases h : (numL n).head? = some 48
    · have := numL_head n h
      subst this
      have : numL 0 = [48] := numL_lt (by decide)
      rw [this]
      rfl
    · rw [decide_eq_false h]; rfl
theorem can_val {l : List Nat} (h : canB l = true) : numL (NumText.digitsVal l) = l := by
  unfold canB at h
  rw [Bool.and_eq_true, Bool.and_eq_true] at h
  obtain ⟨hd, hn, hz⟩ := h
  have ad := all_dig.mp hd
  have back : (l.map Char.ofNat).map Char.toNat = l := by
    rw [List.map_map]
    have : ∀ c ∈ l, (Char.toNat ∘ Char.ofNat) c = c := fun c hc => by
      have r := ad c hc
      show (Char.ofNat c).toNat = c
      have : ∀ c : Nat, c < 58 → (Char.ofNat c).toNat = c := by decide
      exact this c (by omega)
    rw [List.map_congr_left this, List.map_id']
  cases l with
  | nil => cases hn
  | cons c r =>
    have e : Nat.toDigits 10 (NumText.digitsVal (c :: r)) = (c :: r).map Char.ofNat := by
      refine NumText.toDigits_digitsVal r.length (c :: r) rfl ad ?_
      by_cases z : c = 48
      · subst z
        left
        have : (48 :: r) = [48] := by simpa using hz
        cases this
        rfl
      · right
        have := ad c List.mem_cons_self
        exact ⟨c, r, rfl, by omega⟩
    unfold numL
    rw [e, back]
/-- the number that a word writes -/
def numO (x : Str) : Option Nat := if canB (tl x) = true then some (NumText.digitsVal (tl x)) else none
theorem numO_iff {x : Str} {n : Nat} : numO x = some n ↔ figS n = x := by
  unfold numO
  constructor
  · intro h
    split at h
    · rename_i c
      cases h
      refine ext_tl ?_
      rw [tl_fig, can_val c]
    · cases h
  · rintro rfl
    rw [tl_fig, if_pos (can_num n), numL_val]
theorem numO_fig (n : Nat) : numO (figS n) = some n := numO_iff.mpr rfl
theorem numO_int {x : Str} {n : Nat} (h : numO x = some n) (l : x.length ≤ 640) : intText? x = some (n : Int) := by
  unfold numO at h
  split at h
  · rename_i c
    cases h
    unfold canB at c
    rw [Bool.and_eq_true, Bool.and_eq_true] at c
    obtain ⟨hd, hn, -⟩ := c
    exact intText_digits (all_dig.mp hd) (by intro e; rw [show tl x = [] from e] at hn; cases hn) (by omega)
  · cases h
/-! ### split and join by a sign -/
theorem spl1_cons {s c : Nat} {acc r : List Nat} : spl [s] 0 acc (c :: r) = if c = s then acc :: spl [s] 0 [] r else spl [s] 0 (acc ++ [c]) r := by
  by_cases z : c = s
  · rw [if_pos z, spl_hit (by subst z; simp [pre])]
    rfl
  · rw [if_neg z, spl_miss (pre_of_head [] r z)]
theorem spl1_parts {s : Nat} : ∀ {l acc : List Nat}, s ∉ acc → spl [s] 0 acc l ≠ [] ∧ (∀ p ∈ spl [s] 0 acc l, s ∉ p) ∧ joinL [s] (spl [s] 0 acc l) = acc ++ l
  | [], acc, h => by
    rw [spl_nil]
    refine ⟨by simp, fun p hp => by rw [List.mem_singleton.mp hp]; exact h, ?_⟩
    show acc = acc ++ []
    simp
  | c :: r, acc, h => by
    rw [spl1_cons]
    by_cases z : c = s
    · rw [if_pos z]
      obtain ⟨h1, h2, h3⟩ := spl1_parts (s := s) (l := r) (acc := []) (by simp)
      refine ⟨by simp, fun p hp => ?_, ?_⟩
      · rcases List.mem_cons.mp hp with rfl | hp
        · exact h
        · exact h2 p hp
      · cases e : spl [s] 0 [] r with
        | nil => exact absurd e h1
        | cons a q =>
          rw [e] at h3
          show acc ++ ([s] ++ joinL [s] (a :: q)) = acc ++ c :: r
          rw [h3, z]
          rfl
    · rw [if_neg z]
      obtain ⟨h1, h2, h3⟩ := spl1_parts (s := s) (l := r) (acc := acc ++ [c]) (by simp [h]; exact fun e => z e.symm)
      exact ⟨h1, h2, by rw [h3]; simp⟩
theorem spl1_len {s : Nat} : ∀ (l acc : List Nat), (spl [s] 0 acc l).length ≤ l.length + 1
  | [], acc => by rw [spl_nil]; simp
  | c :: r, acc => by
    rw [spl1_cons]
    have h1 := spl1_len (s := s) r []
    have h2 := spl1_len (s := s) r (acc ++ [c])
    split
    · simp; omega
    · simp; omega
theorem spl1_each {s : Nat} : ∀ {l acc p : List Nat}, p ∈ spl [s] 0 acc l → p.length ≤ acc.length + l.length
  | [], acc, p, h => by
    rw [spl_nil] at h
    rw [List.mem_singleton.mp h]
    simp
  | c :: r, acc, p, h => by
    rw [spl1_cons] at h
    split at h
    · rcases List.mem_cons.mp h with rfl | h
      · simp
      · have := spl1_each h
        simp at this ⊢
        omega
    · have := spl1_each h
      simp at this ⊢
      omega
/-- the words of a text, cut at a sign -/
def cutS1 (s : Nat) (x : Str) : List Str := Txt.split x ⟨#[s]⟩
theorem tl_one (s : Nat) : tl (⟨#[s]⟩ : Str) = [s] := rfl
theorem cut_spl {s : Nat} (hs : s < 256) (x : Str) : (cutS1 s x).map tl = spl [s] 0 [] (tl x) := by
  unfold cutS1
  rw [split_spl x ⟨#[s]⟩ (by simp [tl_one]) (kind_ok (by simp [hs]))]
theorem cut_ne {s : Nat} (hs : s < 256) (x : Str) : cutS1 s x ≠ [] := fun e => by
  have h := cut_spl hs x
  rw [e] at h
  exact (spl1_parts (s := s) (l := tl x) (acc := []) (by simp)).1 h.symm
theorem cut_len {s : Nat} (hs : s < 256) (x : Str) : (cutS1 s x).length ≤ x.length + 1 := by
  have := congrArg List.length (cut_spl hs x)
  rw [List.length_map] at this
  rw [this, len_tl]
  exact spl1_len _ _
theorem cut_each {s : Nat} (hs : s < 256) {x p : Str} (h : p ∈ cutS1 s x) : p.length ≤ x.length := by
  have : tl p ∈ spl [s] 0 [] (tl x) := by
    rw [← cut_spl hs x]
    exact List.mem_map_of_mem h
  have := spl1_each this
  rw [len_tl, len_tl]
  simpa using this
theorem join_cut {s : Nat} (hs : s < 256) (x : Str) : Txt.join ⟨#[s]⟩ (cutS1 s x) = x := by
  refine ext_tl ?_
  rw [join_eq, tl_join, cut_spl hs, tl_one, (spl1_parts (s := s) (l := tl x) (acc := []) (by simp)).2.2]
  rfl
theorem cut_join {s : Nat} (hs : s < 256) {ps : List Str} (hne : ps ≠ []) (hp : ∀ p ∈ ps, s ∉ tl p) : cutS1 s (Txt.join ⟨#[s]⟩ ps) = ps :=
  split_join (s := s) (S := []) rfl (by simp [hs]) hne hp
/-! ### a rule's words -/
def worthW : PyData → List Str
  | .none => ["none"]
  | .bool b => [if b = true then "yes" else "no"]
  | .int i => [figS i.toNat]
  | .tuple [.int m, .int f] => [figS m.toNat, figS f.toNat]
  | _ => []
def ruleW (r : RuleD) : List Str := r.w.word :: figS r.f.toNat :: figS r.l.toNat :: worthW r.d
def ruleS (r : RuleD) : Str := Txt.join " " (ruleW r)
theorem sp_one : (" " : Str) = ⟨#[32]⟩ := by decide
theorem wd_free (w : Wd) : 32 ∉ tl w.word := by cases w <;> decide
theorem fits_kind {w : Wd} {d : PyData} (h : fitsD w d = true) : (d = .none ∧ (w = .price ∨ w = .deal)) ∨ (∃ b, d = .bool b ∧ (w = .come ∨ w = .go)) ∨ (∃ i, d = .int i ∧ 0 ≤ i ∧ i ≤ 1000000000000 ∧ (w = .price ∨ w = .least ∨ w = .most ∨ w = .fee)) ∨ ∃ m f, d = .tuple [.int m, .int f] ∧ 1 ≤ m ∧ m ≤ 14 ∧ 1 ≤ f ∧ f < m ∧ w = .deal := by
  have coin : ∀ {d : PyData}, isCoins d = true → ∃ i, d = .int i ∧ 0 ≤ i ∧ i ≤ 1000000000000 := fun {d} h => by
    cases d with
    | int i =>
      rw [show isCoins (.int i) = (decide (0 ≤ i) && decide (i ≤ 1000000000000)) from rfl, Bool.and_eq_true, decide_eq_true_eq, decide_eq_true_eq] at h
      exact ⟨i, rfl, h⟩
    | _ => cases h
  have night : ∀ {d : PyData}, isNights d = true → ∃ i, d = .int i ∧ 1 ≤ i ∧ i ≤ 14 := fun {d} h => by
    cases d with
    | int i =>
      rw [show isNights (.int i) = (decide (1 ≤ i) && decide (i ≤ 14)) from rfl, Bool.and_eq_true, decide_eq_true_eq, decide_eq_true_eq] at h
      exact ⟨i, rfl, h⟩
    | _ => cases h
  have boo : ∀ {d : PyData}, isBool d = true → ∃ b, d = .bool b := fun {d} h => by
    cases d with
    | bool b => exact ⟨b, rfl⟩
    | _ => cases h
  cases w with
  | price =>
    rcases Bool.or_eq_true_iff.mp (show (isNone d || isCoins d) = true from h) with g | g
    · cases d <;> first | exact .inl ⟨rfl, .inl rfl⟩ | cases g
    · obtain ⟨i, rfl, a, b⟩ := coin g
      exact .inr (.inr (.inl ⟨i, rfl, a, b, .inl rfl⟩))
  | come => obtain ⟨b, rfl⟩ := boo h; exact .inr (.inl ⟨b, rfl, .inl rfl⟩)
  | go => obtain ⟨b, rfl⟩ := boo h; exact .inr (.inl ⟨b, rfl, .inr rfl⟩)
  | least => obtain ⟨i, rfl, a, b⟩ := night h; exact .inr (.inr (.inl ⟨i, rfl, by omega, by omega, .inr (.inl rfl)⟩))
  | most => obtain ⟨i, rfl, a, b⟩ := night h; exact .inr (.inr (.inl ⟨i, rfl, by omega, by omega, .inr (.inr (.inl rfl))⟩))
  | fee => obtain ⟨i, rfl, a, b⟩ := coin h; exact .inr (.inr (.inl ⟨i, rfl, a, b, .inr (.inr (.inr rfl))⟩))
  | deal =>
    replace h : isDeal d = true := h
    unfold isDeal at h
    split at h
    · exact .inl ⟨rfl, .inr rfl⟩
    · rename_i a f
      rw [Bool.and_eq_true] at h
      obtain ⟨m, rfl, m0, m1⟩ := night h.1
      have h2 := h.2
      simp only [Bool.and_eq_true, decide_eq_true_eq] at h2
      exact .inr (.inr (.inr ⟨m, f, rfl, m0, m1, h2.1, h2.2, rfl⟩))
    · cases h
theorem worth_free {w : Wd} {d : PyData} (h : fitsD w d = true) {p : Str} (hp : p ∈ worthW d) : 32 ∉ tl p := by
  rcases fits_kind h with ⟨rfl, -⟩ | ⟨b, rfl, -⟩ | ⟨i, rfl, -⟩ | ⟨m, f, rfl, -⟩
  · rw [List.mem_singleton.mp hp]; decide
  · rw [List.mem_singleton.mp hp]; cases b <;> decide
  · rw [List.mem_singleton.mp hp]; exact fig_free (.inl (by decide))
  · simp only [worthW, List.mem_cons, List.not_mem_nil, or_false] at hp
    rcases hp with rfl | rfl <;> exact fig_free (.inl (by decide))
theorem worth_len {w : Wd} {d : PyData} (h : fitsD w d = true) : (worthW d).length = 1 ∨ (worthW d).length = 2 := by
  rcases fits_kind h with ⟨rfl, -⟩ | ⟨b, rfl, -⟩ | ⟨i, rfl, -⟩ | ⟨m, f, rfl, -⟩ <;> simp [worthW]
theorem ruleW_free {r : RuleD} (g : r.good) {p : Str} (hp : p ∈ ruleW r) : 32 ∉ tl p := by
  unfold ruleW at hp
  simp only [List.mem_cons] at hp
  rcases hp with rfl | rfl | rfl | hp
  · exact wd_free _
  · exact fig_free (.inl (by decide))
  · exact fig_free (.inl (by decide))
  · exact worth_free g.2.2.2 hp
/-- the words of a rule's text -/
theorem words_rule {r : RuleD} (g : r.good) : cutS1 32 (ruleS r) = ruleW r := by
  unfold ruleS
  rw [sp_one]
  exact cut_join (by decide) (by simp [ruleW]) fun p hp => ruleW_free g hp
theorem fig_none (n : Nat) : figS n ≠ "none" := fun e => by
  have h := tl_fig n
  rw [e] at h
  have := numL_digits n 110 (by rw [← h]; decide)
  omega
theorem worthW_inj {w : Wd} {d d' : PyData} (h : fitsD w d = true) (h' : fitsD w d' = true) (e : worthW d = worthW d') : d = d' := by
  rcases fits_kind h with ⟨rfl, hw⟩ | ⟨b, rfl, hw⟩ | ⟨i, rfl, i0, i1, hw⟩ | ⟨m, f, rfl, m0, m1, f0, f1, hw⟩ <;> rcases fits_kind h' with ⟨rfl, hw'⟩ | ⟨b', rfl, hw'⟩ | ⟨i', rfl, i0', i1', hw'⟩ | ⟨m', f', rfl, m0', m1', f0', f1', hw'⟩
  · rfl
  · rcases hw with rfl | rfl <;> rcases hw' with z | z <;> cases z
  · exact absurd (List.cons.inj e).1.symm (fig_none _)
  · cases (List.cons.inj e).2
  · rcases hw with rfl | rfl <;> rcases hw' with z | z <;> cases z
  · have := (List.cons.inj e).1
    cases b <;> cases b' <;> first | rfl | exact absurd this (by decide)
  · rcases hw with rfl | rfl <;> rcases hw' with z | z | z | z <;> cases z
  · cases (List.cons.inj e).2
  · exact absurd (List.cons.inj e).1 (fig_none _)
  · rcases hw' with rfl | rfl <;> rcases hw with z | z | z | z <;> cases z
  · have := fig_inj (List.cons.inj e).1
    rw [show i = i' by omega]
  · cases (List.cons.inj e).2
  · cases (List.cons.inj e).2
  · cases (List.cons.inj e).2
  · cases (List.cons.inj e).2
  · have a := fig_inj (List.cons.inj e).1
    have b := fig_inj (List.cons.inj (List.cons.inj e).2).1
    rw [show m = m' by omega, show f = f' by omega]
theorem ruleS_inj {r r' : RuleD} (g : r.good) (g' : r'.good) (h : ruleS r = ruleS r') : r = r' := by
  have e : ruleW r = ruleW r' := by rw [← words_rule g, ← words_rule g', h]
  unfold ruleW at e
  obtain ⟨e1, e⟩ := List.cons.inj e
  obtain ⟨e2, e⟩ := List.cons.inj e
  obtain ⟨e3, e4⟩ := List.cons.inj e
  have ew := Wd.word_inj e1
  have a := fig_inj e2
  have b := fig_inj e3
  obtain ⟨w, f, l, d⟩ := r
  obtain ⟨w', f', l', d'⟩ := r'
  obtain ⟨f0, f1, l1, fd⟩ := g
  obtain ⟨f0', f1', l1', fd'⟩ := g'
  dsimp only at *
  subst ew
  rw [worthW_inj fd fd' e4, show f = f' by omega, show l = l' by omega]
open Classical in
/-- the rule that a text writes -/
noncomputable def byO (t : Str) : Option RuleD := if h : ∃ r : RuleD, r.good ∧ ruleS r = t then some h.choose else none
theorem by_iff {t : Str} {r : RuleD} : byO t = some r ↔ r.good ∧ ruleS r = t := by
  unfold byO
  constructor
  · intro h
    split at h
    · rename_i e
      cases h
      exact e.choose_spec
    · cases h
  · intro h
    have e : ∃ r : RuleD, r.good ∧ ruleS r = t := ⟨r, h⟩
    rw [dif_pos e]
    exact congrArg some (ruleS_inj e.choose_spec.1 h.1 (e.choose_spec.2.trans h.2.symm))
/-- how long a rule's text is -/
theorem joinL_len (S : List Nat) : ∀ ps : List (List Nat), (joinL S ps).length ≤ (ps.map fun p => p.length + S.length).sum
  | [] => by simp [joinL]
  | [p] => by simp [joinL]
  | p :: q :: r => by
    have := joinL_len S (q :: r)
    show (p ++ (S ++ joinL S (q :: r))).length ≤ _
    rw [List.map_cons, List.sum_cons, List.length_append, List.length_append]
    omega
theorem rule_len {r : RuleD} (g : r.good) : (ruleS r).length ≤ 60 := by
  have e : (ruleS r).length = (joinL [32] ((ruleW r).map tl)).length := by
    unfold ruleS
    rw [len_tl, join_eq, tl_join, sp_one]
  rw [e]
  refine Nat.le_trans (joinL_len _ _) ?_
  obtain ⟨f0, f1, l1, fd⟩ := g
  have lw : (tl r.w.word).length ≤ 5 := by cases r.w <;> decide
  have lf : (tl (figS r.f.toNat)).length ≤ 7 := by rw [← len_tl]; exact fig_len (by decide) (by omega)
  have ll : (tl (figS r.l.toNat)).length ≤ 7 := by rw [← len_tl]; exact fig_len (by decide) (by omega)
  have ld : ((worthW r.d).map fun p => (tl p).length + 1).sum ≤ 20 := by
    rcases fits_kind fd with ⟨e, -⟩ | ⟨b, e, -⟩ | ⟨i, e, i0, i1, -⟩ | ⟨m, f, e, m0, m1, f0, f1, -⟩
    · rw [e]; decide
    · rw [e]; cases b <;> decide
    · rw [e]
      have : (tl (figS i.toNat)).length ≤ 13 := by rw [← len_tl]; exact fig_len (by decide) (by omega)
      simp only [worthW, List.map_cons, List.map_nil, List.sum_cons, List.sum_nil]
      omega
    · rw [e]
      have h1 : (tl (figS m.toNat)).length ≤ 2 := by rw [← len_tl]; exact fig_len (by decide) (by omega)
      have h2 : (tl (figS f.toNat)).length ≤ 2 := by rw [← len_tl]; exact fig_len (by decide) (by omega)
      simp only [worthW, List.map_cons, List.map_nil, List.sum_cons, List.sum_nil]
      omega
  unfold ruleW
  simp only [List.map_cons, List.map_map, List.sum_cons, List.length_cons, List.length_nil, Function.comp_def, Nat.zero_add]
  omega
/-! YSr: str of a whole number. -/
open PySem PySem.Spec PyProof.Rows L2
/-- str of a whole number -/
def rStrI : List V → Hp → VK → Prop := fun xs H Q => ∃ i : Int, xs = [.int i] ∧ i.natAbs.log2 < 1920 ∧ Q (.str (toString i : String)) H
theorem cr_strI {X : Cx} : CallR X (.type "str") rStrI := call_str_int
theorem g_strI {i : Int} {H : Hp} {Q : VK} (h : i.natAbs.log2 < 1920) (q : Q (.str (toString i : String)) H) : rStrI [.int i] H Q := ⟨i, rfl, h, q⟩
/-! YFs: steps of readings of texts. -/
open PySem PySem.Spec PyProof.Rows L2 TL
/-- an f-string -/
def tJoined (ts : List TE) : TE := fun σ H Q => tJs ts Str.empty σ H fun out H1 => Q (.str out) H1
abbrev rSplit : V → List V → Hp → VK → Prop := fun x xs H Q => ∃ a b, x = .str a ∧ xs = [.str b] ∧ (b.length == 0) = false ∧ a.length + 2 ≤ sizeLine ∧ rNewStrs (Txt.split a b) H Q
abbrev rJoinT (K : PySem.W.Frag) : V → List V → Hp → VK → Prop := fun x xs H Q => ∃ a p, ∃ ys : List Str, x = .str a ∧ xs = [.ref p] ∧ (SqL K H p (ys.map V.str) ∨ SqT K H p (ys.map V.str)) ∧
      (ys.map (·.length)).sum + ys.length * a.length ≤ 16777216 ∧ Q (.str (Txt.join a ys)) H
abbrev rIntS : List V → Hp → VK → Prop := fun xs H Q => ∃ a n, xs = [.str a] ∧ PySem.intText? a = some n ∧ a.length ≤ 640 ∧ Q (.int n) H
abbrev rInS : R2 := fun x y H Q => ∃ (c : Nat) (z : Str), x = .str ⟨#[c]⟩ ∧ y = .str z ∧ Q (.bl (decide (c ∈ z.cps.toList))) H
abbrev rNotInS : R2 := fun x y H Q => ∃ (c : Nat) (z : Str), x = .str ⟨#[c]⟩ ∧ y = .str z ∧ Q (.bl (!decide (c ∈ z.cps.toList))) H
section
variable {K : PySem.W.Frag} {σ : L2.St} {H : Hp} {Q : VK}
theorem g_joined {ts : List TE} (h : tJs ts Str.empty σ H fun out H1 => Q (.str out) H1) : tJoined ts σ H Q := h
theorem log_of {i : Int} (h0 : 0 ≤ i) (h1 : i ≤ 1000000000000000) : i.natAbs.log2 < 1920 := by
  by_cases z : i.natAbs = 0
  · rw [z]; decide
  · rw [Nat.log2_lt z]
    exact Nat.lt_of_lt_of_le (show i.natAbs < 2 ^ 50 by omega) (Nat.pow_le_pow_right (by decide) (by decide))
theorem fig_str {i : Int} (h : 0 ≤ i) : (Str.ofString (toString i) : Str) = figS i.toNat := by
  unfold figS
  rw [show ((i.toNat : Nat) : Int) = i by omega]
theorem g_m1 {r : V → List V → Hp → VK → Prop} {to te : TE} (h : to σ H fun x H1 => (∃ a, x = .str a) ∧ te σ H1 fun y H2 => r x [y] H2 Q) : tM1 r to te σ H Q := h
theorem g_isS {a : Str} {R : Prop} (q : R) : (∃ b, V.str a = .str b) ∧ R := ⟨⟨a, rfl⟩, q⟩
theorem g_split {a : Str} {s : Nat} (l : a.length ≤ 100000) (q : ∀ p H', Same H H' → Fr H p → H' p = some (.lst ((cutS1 s a).map V.str)) → Q (.ref p) H') : rSplit (.str a) [.str ⟨#[s]⟩] H Q :=
  ⟨a, ⟨#[s]⟩, rfl, rfl, rfl, by rw [sizeLine_eq]; omega, fun p hp => q p _ (same_new hp) hp upd_same⟩
theorem g_join {a : Str} {p : Addr} {ys : List Str} (h : SqL K H p (ys.map V.str)) (l : (ys.map (·.length)).sum + ys.length * a.length ≤ 16777216) (q : Q (.str (Txt.join a ys)) H) : rJoinT K (.str a) [.ref p] H Q := ⟨a, p, ys, rfl, rfl, .inl h, l, q⟩
theorem g_intS {a : Str} {n : Nat} (h : numO a = some n) (l : a.length ≤ 640) (q : Q (.int (n : Nat)) H) : rIntS [.str a] H Q := ⟨a, _, rfl, numO_int h l, l, q⟩
theorem g_inS {c : Nat} {z : Str} (q : Q (.bl (decide (c ∈ z.cps.toList))) H) : rInS (.str ⟨#[c]⟩) (.str z) H Q := ⟨c, z, rfl, rfl, q⟩
theorem g_notInS {c : Nat} {z : Str} (q : Q (.bl (!decide (c ∈ z.cps.toList))) H) : rNotInS (.str ⟨#[c]⟩) (.str z) H Q := ⟨c, z, rfl, rfl, q⟩
theorem g_iStr {te : TE} {R : It → Hp → Prop} (h : te σ H fun v H1 => ∃ x, v = .str x ∧ R (Its x) H1) : iStr te σ H R := h
theorem g_exS {z : Str} {R : Str → Prop} (q : R z) : ∃ x, V.str z = .str x ∧ R x := ⟨z, rfl, q⟩
end
/-- a test that comes to b -/
theorem cutT {t : TT} {σ : L2.St} {H : Hp} {k : Bool → Hp → Prop} (b : Bool) (h : ∀ k' : Bool → Hp → Prop, k' b H → t σ H k') (q : k b H) : t σ H k := h _ q
theorem sz_of {n : Nat} (h : n ≤ 1000000) : n ≤ sizeLine := by rw [sizeLine_eq]; omega
theorem len_app (a b : Str) : (a ++ b).length = a.length + b.length := by rw [len_tl, len_tl, len_tl, tl_append, List.length_append]
section
variable {K : PySem.W.Frag} {σ : L2.St} {H : Hp} {acc y : Str} {ts : List TE} {Q : Str → Hp → Prop}
theorem g_jsVS {n : Nat} (e : σ[n]? = some (some (.str y))) (l : y.length ≤ 100000) (la : acc.length ≤ 100000) (q : tJs ts (acc ++ y) σ H Q) : tJs (tFmt (tVar n) :: ts) acc σ H Q :=
  ⟨_, e, .inl ⟨y, rfl, sz_of (by omega), y, rfl, sz_of (by rw [len_app]; omega), q⟩⟩
theorem g_jsVI {n : Nat} {i : Int} (e : σ[n]? = some (some (.int i))) (h0 : 0 ≤ i) (h1 : i < 1000000000000000) (la : acc.length ≤ 100000) (q : (figS i.toNat).length ≤ 15 → tJs ts (acc ++ figS i.toNat) σ H Q) : tJs (tFmt (tVar n) :: ts) acc σ H Q := by
  have l : (figS i.toNat).length ≤ 15 := fig_len (by decide) (by omega)
  refine ⟨_, e, .inr ⟨i, rfl, log_of h0 (by omega), _, rfl, ?_, ?_⟩⟩
  · show (acc ++ Str.ofString (toString i)).length ≤ sizeLine
    rw [fig_str h0]
    exact sz_of (by rw [len_app]; omega)
  · show tJs ts (acc ++ Str.ofString (toString i)) σ H Q
    rw [fig_str h0]
    exact q l
theorem g_jsC (l : y.length ≤ 100000) (la : acc.length ≤ 100000) (q : tJs ts (acc ++ y) σ H Q) : tJs (tC (.str y) :: ts) acc σ H Q :=
  ⟨y, rfl, sz_of (by rw [len_app]; omega), q⟩
/-- a part {x} of an f-string -/
def FmJ (acc : Str) (ts : List TE) (σ : L2.St) (Q : Str → Hp → Prop) (x : V) (H1 : Hp) : Prop := (∃ y : Str, x = .str y ∧ y.length ≤ sizeLine ∧ ∃ y' : Str, V.str y = .str y' ∧ (acc ++ y').length ≤ sizeLine ∧ tJs ts (acc ++ y') σ H1 Q) ∨ ∃ i : Int, x = .int i ∧ i.natAbs.log2 < 1920 ∧ ∃ y' : Str, V.str (toString i : String) = .str y' ∧ (acc ++ y').length ≤ sizeLine ∧ tJs ts (acc ++ y') σ H1 Q
theorem g_jsP {te : TE} (h : te σ H (FmJ acc ts σ Q)) : tJs (tFmt te :: ts) acc σ H Q := h
theorem fmj_s (l : y.length ≤ 100000) (la : acc.length ≤ 100000) (q : tJs ts (acc ++ y) σ H Q) : FmJ acc ts σ Q (.str y) H := .inl ⟨y, rfl, sz_of (by omega), y, rfl, sz_of (by rw [len_app]; omega), q⟩
theorem fmj_i {i : Int} (h0 : 0 ≤ i) (h1 : i < 1000000000000000) (la : acc.length ≤ 100000) (q : (figS i.toNat).length ≤ 15 → tJs ts (acc ++ figS i.toNat) σ H Q) : FmJ acc ts σ Q (.int i) H := by
  have l : (figS i.toNat).length ≤ 15 := fig_len (by decide) (by omega)
  refine .inr ⟨i, rfl, log_of h0 (by omega), _, rfl, ?_, ?_⟩
  · show (acc ++ Str.ofString (toString i)).length ≤ sizeLine
    rw [fig_str h0]
    exact sz_of (by rw [len_app]; omega)
  · show tJs ts (acc ++ Str.ofString (toString i)) σ H Q
    rw [fig_str h0]
    exact q l
end
/-- lists of texts that read alike -/
theorem dp_strs {K : PySem.W.Frag} {H : Hp} : ∀ xs : List Str, DpAll K H (xs.map V.str) (xs.map PyData.str)
  | [] => .nil
  | x :: xs => .cons (.str x) (dp_strs xs)
theorem eqv_strs : ∀ xs ys : List Str, PyData.eqvAll (xs.map PyData.str) (ys.map PyData.str) = decide (xs = ys)
  | [], [] => by simp [PyData.eqvAll]
  | [], _ :: _ => by simp [PyData.eqvAll]
  | _ :: _, [] => by simp [PyData.eqvAll]
  | x :: xs, y :: ys => by
    rw [List.map_cons, List.map_cons]
    simp only [PyData.eqvAll]
    rw [eqv_strs xs ys]
    have : PyData.eqv (.str x) (.str y) = decide (x = y) := by
      rw [show PyData.eqv (.str x) (.str y) = (x == y) by simp [PyData.eqv], Bool.eq_iff_iff, beq_iff_eq, decide_eq_true_eq]
    rw [this]
    by_cases a : x = y <;> by_cases b : xs = ys <;> simp [a, b]
theorem ok_iff {x : Str} : PyData.strOk x = true ↔ ∀ c ∈ tl x, c < 1114112 := by
  unfold PyData.strOk
  rw [Array.all_eq_true_iff_forall_mem]
  constructor
  · intro h c hc
    simpa using h c (Array.mem_toList_iff.mp hc)
  · intro h c hc
    simpa using h c (Array.mem_toList_iff.mpr hc)
theorem spl1_mem {s c : Nat} : ∀ {l acc p : List Nat}, p ∈ spl [s] 0 acc l → c ∈ p → c ∈ acc ++ l
  | [], acc, p, h, hc => by
    rw [spl_nil] at h
    rw [List.mem_singleton.mp h] at hc
    simpa using hc
  | a :: r, acc, p, h, hc => by
    rw [spl1_cons] at h
    split at h
    · rcases List.mem_cons.mp h with rfl | h
      · exact List.mem_append_left _ hc
      · have := spl1_mem h hc
        simp at this ⊢
        exact .inr (.inr this)
    · have := spl1_mem h hc
      simp at this ⊢
      omega
theorem ok_cut {s : Nat} (hs : s < 256) {x p : Str} (h : PyData.strOk x = true) (hp : p ∈ cutS1 s x) : PyData.strOk p = true := by
  rw [ok_iff] at h ⊢
  intro c hc
  have : tl p ∈ spl [s] 0 [] (tl x) := by
    rw [← cut_spl hs x]
    exact List.mem_map_of_mem hp
  exact h c (by simpa using spl1_mem this hc)
theorem ok_fig (n : Nat) : PyData.strOk (figS n) = true := ok_iff.mpr fun c hc => by
  rw [tl_fig] at hc
  have := numL_digits n c hc
  omega
theorem sh_strs {xs : List Str} (h : ∀ x ∈ xs, PyData.strOk x = true) : Sh 1 (.list (xs.map PyData.str)) := sh_lst (n := 0) fun d hd => by
  obtain ⟨x, hx, rfl⟩ := List.mem_map.mp hd
  exact sh_str (h x hx) _
theorem g_eqStrs {K : PySem.W.Frag} {H : Hp} {Q : VK} {p q : Addr} {xs ys : List Str} (h : SqL K H p (xs.map V.str)) (k : SqL K H q (ys.map V.str)) (hx : ∀ x ∈ xs, PyData.strOk x = true) (hy : ∀ x ∈ ys, PyData.strOk x = true) (r : Q (.bl (decide (xs = ys))) H) : rEqD K (.ref p) (.ref q) H Q :=
  ⟨_, _, .lst h (dp_strs xs), .lst k (dp_strs ys), (sh_strs hx).ok (by decide), (sh_strs hy).ok (by decide), by rw [PyData.eqv, eqv_strs]; exact r⟩
/-! YTx: walks of texts.py: a rule as a text, a text's rule. -/
open PySem PySem.Spec PyProof.Rows L2 TL
def worthS (d : PyData) : Str := Txt.join " " (worthW d)
theorem rule_str {r : RuleD} (g : r.good) : ruleS r = Str.empty ++ r.w.word ++ " " ++ figS r.f.toNat ++ " " ++ figS r.l.toNat ++ " " ++ worthS r.d := by
  refine ext_tl ?_
  unfold ruleS worthS ruleW
  rw [join_eq, join_eq, tl_join]
  simp only [tl_append, List.map_cons]
  have e : tl Str.empty = [] := rfl
  rw [e, List.nil_append]
  cases h : worthW r.d with
  | nil =>
    have := worth_len g.2.2.2
    rw [h] at this
    simp at this
  | cons a l =>
    rw [tl_join]
    simp only [List.map_cons, joinL, List.append_assoc]
theorem worthS_one {d : PyData} {x : Str} (h : worthW d = [x]) : worthS d = x := by
  unfold worthS
  rw [h, join_eq]
  rfl
theorem worthS_two {d : PyData} {x y : Str} (h : worthW d = [x, y]) : worthS d = Str.empty ++ x ++ " " ++ y := by
  unfold worthS
  rw [h, join_eq]
  refine ext_tl ?_
  rw [tl_join]
  simp only [tl_append]
  show tl x ++ (tl " " ++ tl y) = [] ++ tl x ++ tl " " ++ tl y
  simp
theorem td_twoI {H : Hp} {x : V} {m f : Int} (h : Td H x (.tuple [.int m, .int f])) : ∃ q, x = .ref q ∧ H q = some (.tup [.int m, .int f]) := by
  cases h with
  | tup h r =>
    cases r with
    | cons a r =>
      cases r with
      | cons b r =>
        cases r
        cases a
        cases b
        exact ⟨_, rfl, h⟩
theorem g_ixA {K : PySem.W.Frag} {H : Hp} {Q : VK} {p : Addr} {xs : List V} {i : Int} {v : V} (h : SqT K H p xs) (a : atI xs i = some v) (q : Q v H) : rIx K (.ref p) (.int i) H Q := .inr (.inl (g_ixT h a q))
theorem g_int1b {H : Hp} {Q : VK} {b : Bool} (q : Q (.int (if b then 1 else 0)) H) : rInt1 [.bl b] H Q := .inr ⟨b, rfl, q⟩
theorem worth_sz {w : Wd} {d : PyData} (h : fitsD w d = true) : (worthS d).length ≤ 20 := by
  rcases fits_kind h with ⟨rfl, -⟩ | ⟨b, rfl, -⟩ | ⟨i, rfl, i0, i1, -⟩ | ⟨m, f, rfl, m0, m1, f0, f1, -⟩
  · decide
  · cases b <;> decide
  · rw [worthS_one (x := figS i.toNat) rfl]
    exact Nat.le_trans (fig_len (k := 13) (by decide) (by omega)) (by decide)
  · rw [worthS_two (x := figS m.toNat) (y := figS f.toNat) rfl]
    have h1 : (figS m.toNat).length ≤ 2 := fig_len (by decide) (by omega)
    have h2 : (figS f.toNat).length ≤ 2 := fig_len (by decide) (by omega)
    rw [len_app, len_app, len_app]
    have e1 : Str.empty.length = 0 := rfl
    have e2 : (" " : Str).length = 1 := by decide
    omega
theorem fig_in (c : Nat) : decide (c ∈ ("0123456789" : Str).cps.toList) = digB c := by
  have e : ("0123456789" : Str).cps.toList = [48, 49, 50, 51, 52, 53, 54, 55, 56, 57] := by decide
  rw [e]
  unfold digB
  rw [Bool.eq_iff_iff, decide_eq_true_eq, Bool.and_eq_true, decide_eq_true_eq, decide_eq_true_eq]
  simp
  omega
theorem sign_map (z : Str) (f : Nat → Bool) : (List.range z.cps.size).filterMap (fun i => (z.cps[i]?).map fun c => V.bl (f c)) = (tl z).map fun c => V.bl (f c) := by
  have := range_flt (tl z) fun c => some (V.bl (f c))
  have e1 : (fun (i : Nat) => (z.cps[i]?).map fun c => V.bl (f c)) = fun (i : Nat) => ((tl z)[i]?).bind fun c => some (V.bl (f c)) := by
    funext i
    rw [Array.getElem?_toList]
    cases z.cps[i]? <;> rfl
  rw [e1, show z.cps.size = (tl z).length by simp [tl], this]
  simp
def numV : Option Nat → V | some n => .int (n : Nat) | none => .non
def numD : Option Nat → PyData | some n => .int (n : Nat) | none => .none
theorem num_td (H : Hp) (o : Option Nat) : Td H (numV o) (numD o) := by cases o <;> constructor
open Classical in
noncomputable def worthsL (w : Str) (ws : List Str) : List PyData :=
  if w = "come" ∨ w = "go" then (if ws = [("yes" : Str)] then [.bool true] else if ws = [("no" : Str)] then [.bool false] else [])
  else if ws = [("none" : Str)] then [.none]
  else if w = "deal" then [.tuple (ws.map fun x => numD (numO x))]
  else if ws.length = 1 then ws.map fun x => numD (numO x) else []
theorem asRule_back {z : Str} {a b d : PyData} {r : RuleD} (h : asRule (.tuple [.str z, a, b, d]) = some r) : r.good ∧ z = r.w.word ∧ a = .int r.f ∧ b = .int r.l ∧ d = r.d := by
  unfold asRule at h
  split at h
  · rename_i z' f l d' e
    cases e
    split at h
    · rename_i w ew
      split at h
      · rename_i c
        cases h
        rw [Bool.and_eq_true] at c
        obtain ⟨c1, c2⟩ := c
        have hw : w.word = z := by
          have := List.find?_some ew
          exact of_decide_eq_true this
        have : (isDay (.int f) && (isDay (.int l) && decide (f ≤ l))) = true := c1
        unfold isDay at this
        simp only [Bool.and_eq_true, decide_eq_true_eq] at this
        exact ⟨⟨this.1.1, this.2.2, this.2.1.2, c2⟩, hw.symm, rfl, rfl, rfl⟩
      · cases h
    · cases h
  · cases h
theorem worthsL_rule {w : Wd} {d : PyData} (h : fitsD w d = true) : worthsL w.word (worthW d) = [d] := by
  unfold worthsL
  have wd : ∀ {u : Wd}, w.word = u.word ↔ w = u := fun {u} => ⟨Wd.word_inj, fun e => by rw [e]⟩
  rcases fits_kind h with ⟨rfl, hw⟩ | ⟨b, rfl, hw⟩ | ⟨i, rfl, i0, i1, hw⟩ | ⟨m, f, rfl, m0, m1, f0, f1, hw⟩
  · rw [if_neg, if_pos (show worthW .none = [("none" : Str)] from rfl)]
    rintro (e | e)
    · have := wd (u := .come).mp e
      rcases hw with rfl | rfl <;> cases this
    · have := wd (u := .go).mp e
      rcases hw with rfl | rfl <;> cases this
  · rw [if_pos (by rcases hw with rfl | rfl; exact .inl rfl; exact .inr rfl)]
    cases b
    · rw [if_neg (by decide)]
      rfl
    · rfl
  · rw [if_neg, if_neg, if_neg, if_pos (show (worthW (.int i)).length = 1 from rfl)]
    · show [numD (numO (figS i.toNat))] = [.int i]
      rw [numO_fig]
      show [PyData.int (i.toNat : Nat)] = _
      rw [show ((i.toNat : Nat) : Int) = i by omega]
    · intro e
      have := wd (u := .deal).mp e
      rcases hw with rfl | rfl | rfl | rfl <;> cases this
    · intro e
      exact fig_none _ (List.cons.inj e).1
    · rintro (e | e)
      · have := wd (u := .come).mp e
        rcases hw with rfl | rfl | rfl | rfl <;> cases this
      · have := wd (u := .go).mp e
        rcases hw with rfl | rfl | rfl | rfl <;> cases this
  · subst hw
    rw [if_neg (by decide), if_neg (by intro e; cases (List.cons.inj e).2), if_pos (show Wd.deal.word = "deal" from rfl)]
    show [PyData.tuple [numD (numO (figS m.toNat)), numD (numO (figS f.toNat))]] = _
    rw [numO_fig, numO_fig]
    show [PyData.tuple [.int (m.toNat : Nat), .int (f.toNat : Nat)]] = _
    rw [show ((m.toNat : Nat) : Int) = m by omega, show ((f.toNat : Nat) : Int) = f by omega]
theorem nums_tds (H : Hp) (ws : List Str) : Tds H (ws.map fun x => numV (numO x)) (ws.map fun x => numD (numO x)) := by
  induction ws with
  | nil => exact .nil
  | cons a l ih => exact .cons (num_td H _) ih
def sp_worth_text (K : PySem.W.Frag) : Sp := Sp2 fun u v H Q E => ∃ (w : Wd) (d : PyData), u = .str w.word ∧ Td H v d ∧ fitsD w d = true ∧ ∀ H', Same H H' → Q (.str (worthS d)) H'
def sp_rule_text (K : PySem.W.Frag) : Sp := Sp1 fun v H Q E => ∃ r, RuT H v r ∧ r.good ∧ ∀ H', Same H H' → Q (.str (ruleS r)) H'
def sp_number_by (K : PySem.W.Frag) : Sp := Sp1 fun u H Q E => ∃ x : Str, u = .str x ∧ x.length ≤ 640 ∧ ∀ H', Same H H' → Q (numV (numO x)) H'
def sp_worths_by (K : PySem.W.Frag) : Sp := Sp2 fun u v H Q E => ∃ (w : Str) (p : Addr) (ws : List Str), u = .str w ∧ v = .ref p ∧ H p = some (.lst (ws.map V.str)) ∧ ws.length ≤ 1000 ∧ (∀ x ∈ ws, PyData.strOk x = true ∧ x.length ≤ 640) ∧ ∀ (l : Addr) (H' : Hp) (ys : List V), Same H H' → H' l = some (.lst ys) → Tds H' ys (worthsL w ws) → Q (.ref l) H'
def sp_rule_by (K : PySem.W.Frag) : Sp := Sp1 fun u H Q E => CFR K ∧ ∃ z : Str, u = .str z ∧ PyData.strOk z = true ∧ z.length ≤ 640 ∧ (byO z = none → ∀ H', Same H H' → Q .non H') ∧ ∀ r, byO z = some r → ∀ v H', Same H H' → RuT H' v r → Q v H'
theorem g_worth_text {K : PySem.W.Frag} {w : Wd} {d : PyData} {v : V} {H : Hp} {Q : VK} {E : XK} (h : Td H v d) (f : fitsD w d = true) (q : ∀ H', Same H H' → Q (.str (worthS d)) H') : sp_worth_text K ([.str w.word, v] ++ []) H Q E := ⟨_, _, rfl, w, d, rfl, h, f, q⟩
theorem g_rule_text {K : PySem.W.Frag} {r : RuleD} {v : V} {H : Hp} {Q : VK} {E : XK} (h : RuT H v r) (g : r.good) (q : ∀ H', Same H H' → Q (.str (ruleS r)) H') : sp_rule_text K ([v] ++ []) H Q E := ⟨_, rfl, r, h, g, q⟩
theorem g_number_by {K : PySem.W.Frag} {x : Str} {H : Hp} {Q : VK} {E : XK} (l : x.length ≤ 640) (q : ∀ H', Same H H' → Q (numV (numO x)) H') : sp_number_by K ([.str x] ++ []) H Q E := ⟨_, rfl, x, rfl, l, q⟩
theorem g_worths_by {K : PySem.W.Frag} {w : Str} {p : Addr} {ws : List Str} {H : Hp} {Q : VK} {E : XK} (h : H p = some (.lst (ws.map V.str))) (l : ws.length ≤ 1000) (o : ∀ x ∈ ws, PyData.strOk x = true ∧ x.length ≤ 640) (q : ∀ (l : Addr) (H' : Hp) (ys : List V), Same H H' → H' l = some (.lst ys) → Tds H' ys (worthsL w ws) → Q (.ref l) H') : sp_worths_by K ([.str w, .ref p] ++ []) H Q E := ⟨_, _, rfl, w, p, ws, rfl, rfl, h, l, o, q⟩
theorem g_rule_by {K : PySem.W.Frag} {z : Str} {H : Hp} {Q : VK} {E : XK} (cf : CFR K) (o : PyData.strOk z = true) (l : z.length ≤ 640) (q1 : byO z = none → ∀ H', Same H H' → Q .non H') (q2 : ∀ r, byO z = some r → ∀ v H', Same H H' → RuT H' v r → Q v H') : sp_rule_by K ([.str z] ++ []) H Q E := ⟨_, rfl, cf, z, rfl, o, l, q1, q2⟩
def t_worth_text (K : PySem.W.Frag) : TS :=
  (tSeq (tIfS (tTest (tOp rIsN (tVar 1) (tC .non)))
  (tRet (tC (.str "none")))
  tNext)
  (tSeq (tIfS (tOr (tTest (tOp rEq (tVar 0) (tC (.str "come")))) (tTest (tOp rEq (tVar 0) (tC (.str "go")))))
  (tRet (tOp (rIxL K) (tLst (tCons (tC (.str "no")) (tCons (tC (.str "yes")) tNil))) (tCB rInt1 (tCons (tVar 1) tNil))))
  tNext)
  (tSeq (tIfS (tTest (tOp rEq (tVar 0) (tC (.str "deal"))))
  (tRet (Y.tJoined [tFmt (tOp (rIx K) (tVar 1) (tC (.int 0))), (tC (.str " ")), tFmt (tOp (rIx K) (tVar 1) (tC (.int 1)))]))
  tNext)
  (tRet (tCB Y.rStrI (tCons (tVar 1) tNil))))))
theorem pure_worth_text {K : PySem.W.Frag} {x y : V} {H : Hp} {Q : VK} {E : XK} (h : sp_worth_text K [x, y] H Q E) : t_worth_text K { nx := fun _ H' => Q .non H', rt := Q } [some x, some y] H := by
  obtain ⟨x, y, e, w, d, rfl, hd, f, q⟩ := h
  cases e
  unfold t_worth_text
  walk_at "ss"
  rcases fits_kind f with ⟨rfl, hw⟩ | ⟨b, rfl, hw⟩ | ⟨i, rfl, i0, i1, hw⟩ | ⟨m, k, rfl, m0, m1, f0, f1, hw⟩
  · cases hd
    refine ite_t (by decide) ?_
    walk_at "ss"
    have := q _ (Same.refl _)
    rwa [worthS_one (x := "none") rfl] at this
  · cases hd
    refine ite_f (decide_eq_false (by intro z; cases z)) ?_
    have fin : ∀ {H' : Hp}, Same H H' → Q (.str (if b = true then "yes" else "no")) H' := fun s => by
      have := q _ s
      rwa [worthS_one (x := if b = true then "yes" else "no") rfl] at this
    clear q
    rcases hw with rfl | rfl
    · walk_at "ss"
      refine ite_dt rfl ?_
      walk_at "ss"
      rename_i p1 hp1
      refine g_int1b ?_
      cases b
      · exact g_ixL (i := 0) (SqL.of upd_same) (at_k0 rfl) (fin (same_new hp1))
      · exact g_ixL (i := 1) (SqL.of upd_same) (at_k1 rfl) (fin (same_new hp1))
    · walk_at "ss"
      refine ite_df (by decide) ?_
      walk_at "ss"
      refine ite_dt rfl ?_
      walk_at "ss"
      rename_i p1 hp1
      refine g_int1b ?_
      cases b
      · exact g_ixL (i := 0) (SqL.of upd_same) (at_k0 rfl) (fin (same_new hp1))
      · exact g_ixL (i := 1) (SqL.of upd_same) (at_k1 rfl) (fin (same_new hp1))
  · cases hd
    refine ite_f (decide_eq_false (by intro z; cases z)) ?_
    walk_at "ss"
    refine ite_df (fun z => ?_) ?_
    · have := Wd.word_inj (v := .come) (V.str.inj z)
      rcases hw with rfl | rfl | rfl | rfl <;> cases this
    walk_at "ss"
    refine ite_df (fun z => ?_) ?_
    · have := Wd.word_inj (v := .go) (V.str.inj z)
      rcases hw with rfl | rfl | rfl | rfl <;> cases this
    walk_at "ss"
    refine ite_df (fun z => ?_) ?_
    · have := Wd.word_inj (v := .deal) (V.str.inj z)
      rcases hw with rfl | rfl | rfl | rfl <;> cases this
    walk_at "ss"
    refine g_strI (log_of i0 (by omega)) ?_
    have := q _ (Same.refl _)
    rw [worthS_one (x := figS i.toNat) rfl, ← fig_str i0] at this
    exact this
  · subst hw
    obtain ⟨t, rfl, ht⟩ := td_twoI hd
    refine ite_f (decide_eq_false (by intro z; cases z)) ?_
    walk_at "ss"
    refine ite_df (by decide) ?_
    walk_at "ss"
    refine ite_df (by decide) ?_
    walk_at "ss"
    refine ite_dt rfl ?_
    with_reducible refine g_ret ?_
    have h1 : (figS m.toNat).length ≤ 2 := fig_len (by decide) (by omega)
    have h2 : (figS k.toNat).length ≤ 2 := fig_len (by decide) (by omega)
    have ls : (" " : Str).length = 1 := by decide
    have le : (Str.empty).length = 0 := rfl
    have fin := q _ (Same.refl _)
    rw [worthS_two (x := figS m.toNat) (y := figS k.toNat) rfl] at fin
    refine g_joined ?_
    refine g_jsP ?_
    walk_at "ss"
    refine g_ixA (SqT.of ht) atI_zero (fmj_i (by omega) (by omega) (by omega) fun _ => ?_)
    refine g_jsC (by omega) (by rw [len_app]; omega) ?_
    refine g_jsP ?_
    walk_at "ss"
    refine g_ixA (SqT.of ht) (at_k1 rfl) (fmj_i (by omega) (by omega) (by simp only [len_app]; omega) fun _ => ?_)
    exact fin
def t_rule_text (K : PySem.W.Frag) : TS :=
  (tSeq (tAsg (tVar 0) (gTup K 4 (gCons (gName 1) (gCons (gName 2) (gCons (gName 3) (gCons (gName 4) gNil))))))
  (tRet (Y.tJoined [tFmt (tVar 1), (tC (.str " ")), tFmt (tVar 2), (tC (.str " ")), tFmt (tVar 3), (tC (.str " ")), tFmt (tCall (sp_worth_text K) [] E0 (tCons (tVar 1) (tCons (tVar 4) tNil)))])))
theorem pure_rule_text {K : PySem.W.Frag} {x : V} {H : Hp} {Q : VK} {E : XK} (h : sp_rule_text K [x] H Q E) : t_rule_text K { nx := fun _ H' => Q .non H', rt := Q } [some x, none, none, none, none] H := by
  obtain ⟨x, e, r, ⟨p, wv, rfl, hp, hw⟩, g, q⟩ := h
  cases e
  unfold t_rule_text
  walk_at "ss"
  dsimp only [List.set]
  have hl := rule_str g
  have l1 : (r.w.word).length ≤ 5 := by cases r.w <;> decide
  have ls : (" " : Str).length = 1 := by decide
  have le : (Str.empty).length = 0 := rfl
  obtain ⟨f0, f1, f2, fd⟩ := g
  have lw := worth_sz fd
  refine g_joined ?_
  refine g_jsVS rfl (by omega) (by omega) ?_
  refine g_jsC (by omega) (by rw [len_app]; omega) ?_
  refine g_jsVI rfl (by omega) (by omega) (by simp only [len_app]; omega) fun h2 => ?_
  refine g_jsC (by omega) (by simp only [len_app]; omega) ?_
  refine g_jsVI rfl (by omega) (by omega) (by simp only [len_app]; omega) fun h3 => ?_
  refine g_jsC (by omega) (by simp only [len_app]; omega) ?_
  refine g_jsP ?_
  walk_at "ss"
  refine g_worth_text hw fd fun H' s' => fmj_s (by omega) (by simp only [len_app]; omega) ?_
  have := q _ s'
  rw [hl] at this
  exact this
def t_number_by (K : PySem.W.Frag) : TS :=
  (tSeq (tIfS (tOr (tTest (tOp rEq (tVar 0) (tC (.str "")))) (tOr (tNot (tB (tCB (rAll K) (tCons (tLc (iStr (tVar 0)) (gName 1) tYes (tOp Y.rInS (tVar 1) (tC (.str "0123456789"))) [1]) tNil)))) (tAnd (tTest (tOp rEq (tOp rIxS (tVar 0) (tC (.int 0))) (tC (.str "0")))) (tTest (tOp rNe (tVar 0) (tC (.str "0")))))))
  (tRet (tC .non))
  tNext)
  (tRet (tCB Y.rIntS (tCons (tVar 0) tNil))))
theorem pure_number_by {K : PySem.W.Frag} {x : V} {H : Hp} {Q : VK} {E : XK} (h : sp_number_by K [x] H Q E) : t_number_by K { nx := fun _ H' => Q .non H', rt := Q } [some x, none] H := by
  obtain ⟨x, e, z, rfl, l, q⟩ := h
  cases e
  unfold t_number_by
  have yes : ∀ {H'}, Same H H' → ∀ n, numO z = some n → Q (.int (n : Nat)) H' := fun s n e => by have := q _ s; rwa [e] at this
  have no : ∀ {H'}, Same H H' → numO z = none → Q .non H' := fun s e => by have := q _ s; rwa [e] at this
  clear q
  walk_at "ss"
  rw [str_eq]
  refine ite_d (fun z0 => ?_) fun z0 => ?_
  · walk_at "ss"
    exact no (Same.refl _) (by rw [z0]; decide)
  walk_at "ss"
  with_reducible refine g_iStr ?_
  walk_at "ss"
  refine g_exS ?_
  refine lc_w walk_str (fun i => (z.cps[i]?).map fun c => V.bl (digB c)) ?_ (fun _ _ => trivial) ?_ ?_
  · have : z.length = z.cps.size := rfl
    omega
  · rintro D i xj H6 H7 N hD hi s6 ⟨rfl, c, hc, rfl⟩ hy hn2
    rw [hc] at hy
    walk_at "ss"
    refine g_inS ?_
    rw [fig_in]
    exact hy _ _ rfl (Same.refl _)
  intro D H' hD s' h'
  rw [sign_map z digB] at h'
  walk_at "ss"
  refine g_all (bs := (tl z).map digB) (SqL.of (by rw [h', List.map_map]; rfl)) ?_
  rw [List.all_map]
  have ed : (tl z).all (id ∘ digB) = (tl z).all digB := rfl
  rw [ed]
  walk_at "ss"
  have nc : canB (tl z) = false → numO z = none := fun e => by unfold numO; rw [e]; rfl
  cases hd : (tl z).all digB with
  | false =>
    walk_at "ss"
    exact no s' (nc (by unfold canB; rw [hd]; rfl))
  | true =>
    walk_at "ss"
    have hne : tl z ≠ [] := fun e => z0 (ext_tl e)
    obtain ⟨c, r, ecr⟩ : ∃ c r, tl z = c :: r := by
      cases e : tl z with
      | nil => exact absurd e hne
      | cons c r => exact ⟨c, r, rfl⟩
    refine ⟨z, 0, c, rfl, rfl, sz_of (by omega), ?_, ?_⟩
    · show atI (tl z) 0 = some c
      rw [ecr]
      exact atI_nat (j := 0) rfl
    walk_at "ss"
    rw [str_eq]
    have fin : canB (tl z) = true → rIntS [.str z] H' Q := fun cz => by
      obtain ⟨n, hn⟩ : ∃ n, numO z = some n := by unfold numO; rw [if_pos cz]; exact ⟨_, rfl⟩
      exact g_intS hn l (yes s' n hn)
    refine ite_d (fun z1 => ?_) fun z1 => ?_
    · have c48 : c = 48 := by
        have e : tl (⟨#[c]⟩ : Str) = tl "0" := by rw [z1]
        have e2 : [c] = [48] := e
        exact (List.cons.inj e2).1
      walk_at "ss"
      rw [str_eq]
      refine ite_nd (fun z2 => ?_) fun z2 => ?_
      · walk_at "ss"
        refine fin ?_
        rw [z2]
        decide
      · walk_at "ss"
        refine no s' (nc ?_)
        unfold canB
        have n48 : tl z ≠ [48] := fun e => z2 (ext_tl (by rw [e]; decide))
        rw [decide_eq_false n48, ecr, c48]
        simp
    · walk_at "ss"
      refine fin ?_
      unfold canB
      have : (tl z).head? ≠ some 48 := by
        rw [ecr]
        intro e
        have e : c = 48 := Option.some.inj e
        rw [e] at z1
        exact z1 (by decide)
      rw [hd, decide_eq_false this, ecr]
      simp
def t_worths_by (K : PySem.W.Frag) : TS :=
  (tSeq (tIfS (tOr (tTest (tOp rEq (tVar 0) (tC (.str "come")))) (tTest (tOp rEq (tVar 0) (tC (.str "go")))))
  (tRet (tLc (iTup K (tTup (tCons (tTup (tCons (tC (.str "yes")) (tCons (tC (.bl true)) tNil))) (tCons (tTup (tCons (tC (.str "no")) (tCons (tC (.bl false)) tNil))) tNil)))) (gTup K 2 (gCons (gName 4) (gCons (gName 5) gNil))) (tTest (tOp (rEqD K) (tVar 1) (tLst (tCons (tVar 4) tNil)))) (tVar 5) [4, 5]))
  tNext)
  (tSeq (tIfS (tTest (tOp (rEqD K) (tVar 1) (tLst (tCons (tC (.str "none")) tNil))))
  (tRet (tLst (tCons (tC .non) tNil)))
  tNext)
  (tSeq (tAsg (tLc (iList K (tVar 1)) (gName 3) tYes (tCall (sp_number_by K) [] E0 (tCons (tVar 3) tNil)) [3]) (gName 2))
  (tSeq (tIfS (tTest (tOp rEq (tVar 0) (tC (.str "deal"))))
  (tRet (tLst (tCons (tCB (rTupOf K) (tCons (tVar 2) tNil)) tNil)))
  tNext)
  (tRet (tSl (rSlL K) (tVar 2) tNoPart (tPart (tCB rInt1 (tCons (tOp rEq (tCB (rLen K) (tCons (tVar 2) tNil)) (tC (.int 1))) tNil)))))))))
theorem pure_worths_by {K : PySem.W.Frag} {x y : V} {H : Hp} {Q : VK} {E : XK} (h : sp_worths_by K [x, y] H Q E) : t_worths_by K { nx := fun _ H' => Q .non H', rt := Q } [some x, some y, none, none, none, none] H := by
  obtain ⟨x, y, e, w, p, ws, rfl, rfl, hp, hl, ho, q⟩ := h
  cases e
  unfold t_worths_by
  have yes : ∀ {l : Addr} {H' : Hp} {ys : List V} {ds : List PyData}, worthsL w ws = ds → Same H H' → H' l = some (.lst ys) → Tds H' ys ds → Q (.ref l) H' := fun e s h t => q _ _ _ s h (by rw [e]; exact t)
  clear q
  have okw : ∀ x ∈ ws, PyData.strOk x = true := fun x hx => (ho x hx).1
  with_reducible refine g_seq ?_
  with_reducible refine g_ifS ?_
  refine cutT (decide (w = "come") || decide (w = "go")) (fun k' hk => ?_) ?_
  · walk_at "ss"
    rw [str_eq]
    refine ite_b (fun z => ?_) fun z => ?_
    · rw [z] at hk
      exact hk
    · rw [z, Bool.false_or] at hk
      walk_at "ss"
      rw [str_eq]
      exact hk
  refine ite_b (fun z => ?_) fun z => ?_
  · have zc : w = "come" ∨ w = "go" := by simpa using z
    walk_at "ss"
    rename_i p1 hp1 p2 hp2 p3 hp3
    refine lc_w (walk_tup (K := K) (a := p3) (xs := [.ref p1, .ref p2])) (fun i => match i with | 0 => if ws = [("yes" : Str)] then some (V.bl true) else none | _ => if ws = [("no" : Str)] then some (V.bl false) else none) (by simp) (fun H' s => SqT.of (s _ _ upd_same)) ?_ ?_
    · rintro D i x H6 H7 N hD hi s6 ⟨rfl, hx⟩ hy hn
      have hp' := s6 _ _ (at_new hp3 (at_new hp2 (at_new hp1 hp)))
      have h1 : H7 p1 = some (.tup [.str "yes", .bl true]) := s6 _ _ (at_new hp3 (at_new hp2 upd_same))
      have h2 : H7 p2 = some (.tup [.str "no", .bl false]) := s6 _ _ (at_new hp3 upd_same)
      match i, hx with
      | 0, hx =>
        cases hx
        walk_at "ss"
        rename_i p4 hp4
        refine g_eqStrs (xs := ws) (ys := [("yes" : Str)]) (SqL.of (at_new hp4 hp')) (SqL.of upd_same) okw (fun x hx => by rw [List.mem_singleton.mp hx]; decide +kernel) ?_
        refine ⟨_, rfl, ?_⟩
        refine ite_d (fun z => ?_) fun z => ?_
        · walk_at "ss"
          exact hy _ _ (if_pos z) (same_new hp4)
        · exact hn _ (if_neg z) (same_new hp4)
      | 1, hx =>
        cases hx
        walk_at "ss"
        rename_i p4 hp4
        refine g_eqStrs (xs := ws) (ys := [("no" : Str)]) (SqL.of (at_new hp4 hp')) (SqL.of upd_same) okw (fun x hx => by rw [List.mem_singleton.mp hx]; decide +kernel) ?_
        refine ⟨_, rfl, ?_⟩
        refine ite_d (fun z => ?_) fun z => ?_
        · walk_at "ss"
          exact hy _ _ (if_pos z) (same_new hp4)
        · exact hn _ (if_neg z) (same_new hp4)
    · intro D H' hD s' h'
      have S : Same H H' := ((same_new hp1).trans ((same_new hp2).trans (same_new hp3))).trans s'
      have e0 : worthsL w ws = if ws = [("yes" : Str)] then [.bool true] else if ws = [("no" : Str)] then [.bool false] else [] := by unfold worthsL; rw [if_pos zc]
      by_cases z1 : ws = [("yes" : Str)]
      · rw [if_pos z1] at e0
        refine yes e0 S h' ?_
        have : ¬ ws = [("no" : Str)] := by rw [z1]; decide
        simp [List.range_succ, z1, this]
        exact .cons (.bl _) .nil
      · rw [if_neg z1] at e0
        by_cases z2 : ws = [("no" : Str)]
        · rw [if_pos z2] at e0
          refine yes e0 S h' ?_
          have zn : ¬ ("no" : Str) = ("yes" : Str) := by decide
          simp [List.range_succ, z2, zn]
          exact .cons (.bl _) .nil
        · rw [if_neg z2] at e0
          refine yes e0 S h' ?_
          simp [List.range_succ, z1, z2]
          exact .nil
  · have zc : ¬ (w = "come" ∨ w = "go") := by simpa using z
    walk_at "ss"
    rename_i p1 hp1
    refine g_eqStrs (xs := ws) (ys := [("none" : Str)]) (SqL.of (at_new hp1 hp)) (SqL.of upd_same) okw (fun x hx => by rw [List.mem_singleton.mp hx]; decide +kernel) ?_
    walk_at "ss"
    refine ite_d (fun z1 => ?_) fun z1 => ?_
    · walk_at "ss"
      rename_i p2 hp2
      refine yes (by unfold worthsL; rw [if_neg zc, if_pos z1]) ((same_new hp1).trans (same_new hp2)) upd_same (.cons .non .nil)
    · walk_at "ss"
      refine lc_w (walk_list (K := K) (a := p) (xs := ws.map V.str)) (fun i => (ws[i]?).map fun x => numV (numO x)) (by rw [List.length_map]; omega) (fun H' s => SqL.of (s _ _ (at_new hp1 hp))) ?_ ?_
      · rintro D i x H6 H7 N hD hi s6 ⟨rfl, hx⟩ hy hn
        obtain ⟨u, rfl, hu⟩ := map_get hx
        walk_at "ss"
        refine g_number_by (ho u (List.mem_of_getElem? hu)).2 fun H8 s8 => ?_
        walk_at "ss"
        exact hy _ _ (by rw [hu]; rfl) s8
      · intro D H' hD s' h'
        have S : Same H H' := (same_new hp1).trans s'
        have e : (List.range (ws.map V.str).length).filterMap (fun i => (ws[i]?).map fun x => numV (numO x)) = ws.map fun x => numV (numO x) := by
          rw [List.length_map]
          have := range_flt ws fun x => some (numV (numO x))
          have e2 : (fun (i : Nat) => (ws[i]?).map fun x => numV (numO x)) = fun (i : Nat) => (ws[i]?).bind fun x => some (numV (numO x)) := by
            funext i
            cases ws[i]? <;> rfl
          rw [e2, this]
          simp
        rw [e] at h'
        dsimp only [List.set]
        walk_at "ss"
        rw [str_eq]
        refine ite_d (fun z2 => ?_) fun z2 => ?_
        · walk_at "ss"
          refine ⟨D, _, rfl, .inl ⟨SqL.of h', fun t ht => ?_⟩⟩
          walk_at "ss"
          rename_i p5 hp5
          refine yes (by unfold worthsL; rw [if_neg zc, if_neg z1, if_pos z2]) (S.trans ((same_new ht).trans (same_new hp5))) upd_same (.cons (.tup (at_new hp5 upd_same) (nums_tds _ ws)) .nil)
        · walk_at "ss"
          rw [List.length_map, int_eq]
          refine g_int1b ?_
          by_cases z3 : ws.length = 1
          · rw [decide_eq_true (show ((ws.length : Nat) : Int) = 1 by omega)]
            refine ⟨1, rfl, ?_⟩
            refine g_slTo (by decide) (SqL.of h') fun a ha => ?_
            refine yes (by unfold worthsL; rw [if_neg zc, if_neg z1, if_neg z2, if_pos z3]) (S.trans (same_new ha)) upd_same ?_
            rw [List.take_of_length_le (by rw [List.length_map, z3]; decide)]
            exact nums_tds _ ws
          · rw [decide_eq_false (show ¬ ((ws.length : Nat) : Int) = 1 by omega)]
            refine ⟨0, rfl, ?_⟩
            refine g_slTo (by decide) (SqL.of h') fun a ha => ?_
            refine yes (by unfold worthsL; rw [if_neg zc, if_neg z1, if_neg z2, if_neg z3]) (S.trans (same_new ha)) upd_same ?_
            exact .nil
def t_rule_by (K : PySem.W.Frag) : TS :=
  (tSeq (tAsg (tM1 Y.rSplit (tVar 0) (tC (.str " "))) (gName 1))
  (tSeq (tIfS (tTest (tOp rLt (tCB (rLen K) (tCons (tVar 1) tNil)) (tC (.int 4))))
  (tRet (tC .non))
  tNext)
  (tSeq (tAsg (tCall (sp_number_by K) [] E0 (tCons (tOp (rIxL K) (tVar 1) (tC (.int 1))) tNil)) (gName 2))
  (tSeq (tAsg (tCall (sp_number_by K) [] E0 (tCons (tOp (rIxL K) (tVar 1) (tC (.int 2))) tNil)) (gName 3))
  (tSeq (tFor (iList K (tCall (sp_worths_by K) [] E0 (tCons (tOp (rIxL K) (tVar 1) (tC (.int 0))) (tCons (tSl (rSlL K) (tVar 1) (tPart (tC (.int 3))) tNoPart) tNil)))) (gName 4)
  (tSeq (tAsg (tCall (sp_rule_of K) [] E0 (tCons (tTup (tCons (tOp (rIxL K) (tVar 1) (tC (.int 0))) (tCons (tVar 2) (tCons (tVar 3) (tCons (tVar 4) tNil))))) tNil)) (gName 5))
  (tIfS (tAnd (tTest (tOp rNotN (tVar 5) (tC .non))) (tTest (tOp rEq (tCall (sp_rule_text K) [] E0 (tCons (tRule K "told" (sp_told K) (tVar 5) tNil) tNil)) (tVar 0))))
  (tRet (tRule K "told" (sp_told K) (tVar 5) tNil))
  tNext)))
  (tRet (tC .non)))))))
theorem pure_rule_by {K : PySem.W.Frag} {x : V} {H : Hp} {Q : VK} {E : XK} (h : sp_rule_by K [x] H Q E) : t_rule_by K { nx := fun _ H' => Q .non H', rt := Q } [some x, none, none, none, none, none] H := by
  obtain ⟨x, e, cf, z, rfl, ok, l, q1, q2⟩ := h
  cases e
  unfold t_rule_by
  walk_at "ss"
  refine g_m1 ?_
  walk_at "ss"
  refine g_isS ?_
  walk_at "ss"
  rw [sp_one]
  refine g_split (by omega) fun p H1 s1 f1 h1 => ?_
  have okw : ∀ x ∈ cutS1 32 z, PyData.strOk x = true ∧ x.length ≤ 640 := fun x hx => ⟨ok_cut (by decide) ok hx, Nat.le_trans (cut_each (by decide) hx) l⟩
  have lw := cut_len (s := 32) (by decide) z
  have back := join_cut (s := 32) (by decide) z
  have isr : ∀ r, byO z = some r → cutS1 32 z = ruleW r := fun r e => by
    obtain ⟨g, e⟩ := by_iff.mp e
    rw [← e, words_rule g]
  generalize hws : cutS1 32 z = ws at h1 okw lw isr
  walk_at "ss"
  rw [List.length_map]
  refine ite_d (fun z0 => ?_) fun z0 => ?_
  · walk_at "ss"
    refine q1 ?_ _ s1
    cases e : byO z with
    | none => rfl
    | some r =>
      have := isr r e
      have g := (by_iff.mp e).1
      have := worth_len g.2.2.2
      rw [isr r e] at z0
      simp [ruleW] at z0
      omega
  obtain ⟨w0, w1, w2, rest, rfl⟩ : ∃ w0 w1 w2 rest, ws = w0 :: w1 :: w2 :: rest := by
    match ws, z0 with
    | [], z0 => simp at z0
    | [_], z0 => simp at z0
    | [_, _], z0 => simp at z0
    | w0 :: w1 :: w2 :: rest, _ => exact ⟨w0, w1, w2, rest, rfl⟩
  have o1 := okw w1 (by simp)
  have o2 := okw w2 (by simp)
  have o3 : ∀ x ∈ rest, PyData.strOk x = true ∧ x.length ≤ 640 := fun x hx => okw x (by simp [hx])
  walk_at "ss"
  refine g_number_by o1.2 fun H2 s2 => ?_
  have h2 := s2 _ _ h1
  walk_at "ss"
  refine g_number_by o2.2 fun H3 s3 => ?_
  have h3 := s3 _ _ h2
  have s03 := s1.trans (s2.trans s3)
  walk_at "ss"
  rename_i p4 hp4
  refine g_worths_by (ws := rest) upd_same (by simp at lw; omega) o3 fun L H5 ys s5 h5 t5 => ?_
  have s35 := (same_new hp4).trans s5
  have h5p := s35 _ _ h3
  have S5 := s03.trans s35
  have yl := tds_len t5
  walk_at "ss"
  have yb : ys.length ≤ 1000 := by
    rw [yl]
    unfold worthsL
    simp at lw
    split
    · split
      · simp
      · split <;> simp
    · split
      · simp
      · split
        · simp
        · split
          · simp; omega
          · simp
  refine for_list (K := K) (a := L) (xs := ys) (fun i σ H' => ∃ v4 v5, σ = [some (.str z), some (.ref p), some (numV (numO w1)), some (numV (numO w2)), v4, v5] ∧ Same H5 H' ∧ ∀ d ∈ (worthsL w0 rest).take i, ∀ r, asRule (.tuple [.str w0, numD (numO w1), numD (numO w2), d]) = some r → ruleS r ≠ z) ⟨_, _, rfl, Same.refl _, by simp⟩ (fun i σ H' _ h => by obtain ⟨_, _, _, h, _⟩ := h; exact SqL.of (h _ _ h5)) ?_ ?_
  · rintro i y σ H6 hi ⟨v4, v5, rfl, s6, no⟩
    obtain ⟨d, hd, td⟩ := tds_get t5 hi
    have h6p := s6 _ _ h5p
    have S6 := S5.trans s6
    have step : (∀ r, asRule (.tuple [.str w0, numD (numO w1), numD (numO w2), d]) = some r → ruleS r ≠ z) → ∀ d ∈ (worthsL w0 rest).take (i + 1), ∀ r, asRule (.tuple [.str w0, numD (numO w1), numD (numO w2), d]) = some r → ruleS r ≠ z := fun h d' hd' => by
      rw [List.take_add_one, hd] at hd'
      rcases List.mem_append.mp hd' with h' | h'
      · exact no d' h'
      · obtain rfl := List.mem_singleton.mp h'
        exact h
    walk_at "ss"
    rename_i p7 hp7
    have td7 := td_new (o := .tup [.str w0, numV (numO w1), numV (numO w2), y]) hp7 (td_same s6 td)
    refine g_rule_of cf (d := .tuple [.str w0, numD (numO w1), numD (numO w2), d]) (Td.at0 (.tup upd_same (.cons (.str _) (.cons (num_td _ _) (.cons (num_td _ _) (.cons td7 .nil)))))) (fun e H8 s8 => ?_) fun r e v H8 s8 hv => ?_
    · walk_at "ss"
      refine ite_f (by decide) ?_
      walk_at "ss"
      exact ⟨_, _, rfl, s6.trans ((same_new hp7).trans s8), step fun r e' => by rw [e] at e'; cases e'⟩
    · obtain ⟨g, -⟩ := asRule_back e
      obtain ⟨pv, dv, wv, rfl, hvo, hvd⟩ := hv
      have hin : InsAt K H8 (.ref pv) r.w (.int r.f) (.int r.l) wv := ⟨pv, dv, rfl, hvo⟩
      walk_at "ss"
      refine ite_t (by rw [decide_eq_false (by intro z; cases z)]; rfl) ?_
      walk_at "ss"
      rename_i p9 H9 s9 f9 h9
      refine g_rule_text (r := r) ⟨p9, wv, rfl, h9, td_same s9 hvd⟩ g fun Ha sa => ?_
      have s9a := s9.trans sa
      have hin : InsAt K Ha (.ref pv) r.w (.int r.f) (.int r.l) wv := ⟨pv, dv, rfl, s9a _ _ hvo⟩
      walk_at "ss"
      rw [str_eq]
      have s6a := (same_new hp7).trans (s8.trans s9a)
      refine ite_d (fun zz => ?_) fun zz => ?_
      · walk_at "ss"
        rename_i pb Hb sb fb hb
        exact q2 r (by_iff.mpr ⟨g, zz⟩) _ _ (S6.trans (s6a.trans sb)) ⟨pb, wv, rfl, hb, td_same (s9a.trans sb) hvd⟩
      · walk_at "ss"
        exact ⟨_, _, rfl, s6.trans s6a, step fun r' e' => by rw [e] at e'; cases e'; exact zz⟩
  · rintro σ H6 ⟨v4, v5, rfl, s6, no⟩
    walk_at "ss"
    refine q1 ?_ _ (S5.trans s6)
    cases e : byO z with
    | none => rfl
    | some r =>
      exfalso
      have er := isr r e
      obtain ⟨g, es⟩ := by_iff.mp e
      unfold ruleW at er
      injection er with e0 er
      injection er with e1 er
      injection er with e2 e3
      subst e0 e1 e2 e3
      rw [yl, List.take_length, worthsL_rule g.2.2.2] at no
      obtain ⟨f0, f1, f2, -⟩ := id g
      refine no r.d (by simp) r ?_ es
      rw [numO_fig, numO_fig]
      show asRule (.tuple [.str r.w.word, .int (r.f.toNat : Nat), .int (r.l.toNat : Nat), r.d]) = some r
      rw [show ((r.f.toNat : Nat) : Int) = r.f by omega, show ((r.l.toNat : Nat) : Int) = r.l by omega]
      exact asRule_told g
/-! YBk: books that stand somewhere, days from one to another. -/
open PySem PySem.Spec PyProof.Rows L2
/-- a book stands at v -/
def BkAt (K : PySem.W.Frag) (H : Hp) (v : V) (rs : List RuleD) : Prop := ∃ F, BookAt K H F v rs
def GoodB (bs : List (List RuleD)) : Prop := ∀ rs ∈ bs, ∀ r ∈ rs, RuleD.good r
def StayB (c g : Int) : Prop := 0 ≤ c ∧ c < g ∧ g ≤ c + 14 ∧ g ≤ 1000000
/-! YOs: shapes of rules' data. -/
open PySem PySem.Spec PyProof.Rows L2
theorem sh_word (w : Wd) (n : Nat) : Sh n (.str w.word) := sh_str (by cases w <;> decide +kernel) n
theorem sh_fits {w : Wd} {d : PyData} (h : fitsD w d = true) : Sh 1 d := by
  have coins : isCoins d = true → Sh 1 d := fun h => by
    obtain ⟨i, rfl, -⟩ := isCoins_b h
    exact sh_int _ _
  have nights : isNights d = true → Sh 1 d := fun h => by
    obtain ⟨i, rfl, -⟩ := isNights_b h
    exact sh_int _ _
  have bool : isBool d = true → Sh 1 d := fun h => by
    cases d with
    | bool b => exact sh_bl _ _
    | _ => cases h
  have none' : d = .none → Sh 1 d := fun e => by
    subst e
    exact sh_non _
  cases w with
  | price =>
    have h' : (isNone d || isCoins d) = true := h
    rcases Bool.or_eq_true_iff.mp h' with h | h
    · refine none' ?_
      cases d <;> first | rfl | cases h
    · exact coins h
  | come => exact bool h
  | go => exact bool h
  | least => exact nights h
  | most => exact nights h
  | fee => exact coins h
  | deal =>
    rcases isDeal_ex h with e | ⟨m, f, rfl, -⟩
    · exact none' e
    · refine sh_tup fun x hx => ?_
      simp only [List.mem_cons, List.not_mem_nil, or_false] at hx
      rcases hx with rfl | rfl
      · exact sh_int _ _
      · exact sh_int _ _
theorem sh_rule {r : RuleD} (h : r.good) : Sh 2 r.told := sh_tup fun x hx => by
  simp only [List.mem_cons, List.not_mem_nil, or_false] at hx
  rcases hx with rfl | rfl | rfl | rfl
  · exact sh_word _ _
  · exact sh_int _ _
  · exact sh_int _ _
  · exact sh_fits h.2.2.2
/-! YIq: whether data stands in a list of data. -/
open PySem PySem.Spec PyProof.Rows L2
/-- each item of a list is data; how each compares with d -/
def rInT (K : PySem.W.Frag) (neg : Bool) : R2 := fun x y H Q => ∃ (p : Addr) (xs : List V) (ds : List PyData) (d : PyData), y = .ref p ∧ SqL K H p xs ∧ DpAll K H xs ds ∧ Dp K H x d ∧ SeqAt.shaped d = true ∧ d.depth ≤ 60 ∧ (∀ e ∈ ds, SeqAt.shaped e = true) ∧ Q (.bl (neg != ds.any fun e => PyData.eqv e d)) H
open Classical in
/-! YTb: books as texts: shown, and read where nothing is refused. -/
open PySem PySem.Spec PyProof.Rows L2 TL
/-- a book's text -/
def textB (rs : List RuleD) : Str := Txt.join "" (rs.map fun r => ruleS r ++ "\n")
theorem joinL_mem {S : List Nat} {c : Nat} : ∀ {ps : List (List Nat)}, c ∈ joinL S ps → c ∈ S ∨ ∃ p ∈ ps, c ∈ p
  | [], h => by cases h
  | [p], h => .inr ⟨p, by simp, h⟩
  | p :: q :: r, h => by
    rcases List.mem_append.mp (show c ∈ p ++ (S ++ joinL S (q :: r)) from h) with h | h
    · exact .inr ⟨p, by simp, h⟩
    · rcases List.mem_append.mp h with h | h
      · exact .inl h
      · rcases joinL_mem h with h | ⟨x, hx, h⟩
        · exact .inl h
        · exact .inr ⟨x, List.mem_cons_of_mem _ hx, h⟩
theorem join_mem {y : Str} {ps : List Str} {c : Nat} (h : c ∈ tl (Txt.join y ps)) : c ∈ tl y ∨ ∃ p ∈ ps, c ∈ tl p := by
  rw [join_eq, tl_join] at h
  rcases joinL_mem h with h | ⟨p, hp, h⟩
  · exact .inl h
  · obtain ⟨q, hq, rfl⟩ := List.mem_map.mp hp
    exact .inr ⟨q, hq, h⟩
theorem ok_joinT {y : Str} {ps : List Str} (hy : PyData.strOk y = true) (h : ∀ p ∈ ps, PyData.strOk p = true) : PyData.strOk (Txt.join y ps) = true := ok_iff.mpr fun c hc => by
  rcases join_mem hc with h' | ⟨p, hp, h'⟩
  · exact ok_iff.mp hy c h'
  · exact ok_iff.mp (h p hp) c h'
theorem ok_appT {a b : Str} (ha : PyData.strOk a = true) (hb : PyData.strOk b = true) : PyData.strOk (a ++ b) = true := ok_iff.mpr fun c hc => by
  rw [tl_append] at hc
  rcases List.mem_append.mp hc with h | h
  · exact ok_iff.mp ha c h
  · exact ok_iff.mp hb c h
theorem ruleW_ok {r : RuleD} (g : r.good) {p : Str} (hp : p ∈ ruleW r) : PyData.strOk p = true := by
  unfold ruleW at hp
  simp only [List.mem_cons] at hp
  rcases hp with rfl | rfl | rfl | hp
  · cases r.w <;> decide +kernel
  · exact ok_fig _
  · exact ok_fig _
  · rcases fits_kind g.2.2.2 with ⟨e, -⟩ | ⟨b, e, -⟩ | ⟨i, e, i0, i1, -⟩ | ⟨m, f, e, m0, m1, f0, f1, -⟩
    · rw [e] at hp; rw [List.mem_singleton.mp hp]; decide +kernel
    · rw [e] at hp; rw [List.mem_singleton.mp hp]; cases b <;> decide +kernel
    · rw [e] at hp; rw [List.mem_singleton.mp hp]; exact ok_fig _
    · rw [e] at hp
      simp only [worthW, List.mem_cons, List.not_mem_nil, or_false] at hp
      rcases hp with rfl | rfl <;> exact ok_fig _
def sp_show_book (K : PySem.W.Frag) : Sp := Sp1 fun v H Q E => CFR K ∧ CFB K ∧ ∃ (F : List Addr) (rs : List RuleD), BookAt K H F v rs ∧ (∀ r ∈ rs, RuleD.good r) ∧ rs.length ≤ 1000 ∧ ∀ H', Same H H' → Q (.str (textB rs)) H'
def sp_read_book (K : PySem.W.Frag) : Sp := Sp1 fun v H Q E => CFR K ∧ CFB K ∧ ∃ (rs : List RuleD), v = .str (textB rs) ∧ (∀ r ∈ rs, RuleD.good r) ∧ rs.length ≤ 24 ∧ ∀ v F H', Same H H' → BookAt K H' F v rs → (∀ p ∈ F, Fr H p) → Q v H'
/-! YSm: a text so many times. -/
open PySem PySem.Spec PyProof.Rows L2 TL
def rMulS : R2 := fun x y H Q => ∃ (a : Str) (n : Int), x = .str a ∧ y = .int n ∧ MulOk a n ∧ Q (.str (Txt.mul a n)) H
theorem op_mulS {X : Cx} : OpR X (binaryOp .Mult) rMulS := by
  intro pins s σ H x y v u Q I rx ry h
  obtain ⟨a, n, rfl, rfl, hz, q⟩ := h
  obtain ⟨t, rfl⟩ := rx
  obtain ⟨t', rfl⟩ := ry
  exact SB.mul hz fun t' k => ⟨.str (Txt.mul a n), H, I.tok _, ⟨_, rfl⟩, q⟩
theorem g_mulS {a : Str} {n : Int} {H : Hp} {Q : VK} (l : a.length ≤ 100) (h0 : 0 ≤ n) (h1 : n ≤ 1000) (q : Q (.str (Txt.mul a n)) H) : rMulS (.str a) (.int n) H Q :=
  ⟨a, n, rfl, rfl, mulOk_of 100 1000 l h1 (by omega) (by decide) (by decide), q⟩
/-! YB: what is a day, a stretch, coins, nights. -/
open PySem PySem.Spec PyProof.Rows L2
theorem ats2 {H : Hp} {L : List Addr} {xs : List V} {ds : List PyData} (r : Ats H L xs ds) (h : xs.length = 2) : ∃ x y a b, xs = [x, y] ∧ ds = [a, b] ∧ At H L x a ∧ At H L y b := by
  match xs, ds, r, h with
  | [x, y], [a, b], .cons h1 (.cons h2 .nil), _ => exact ⟨x, y, a, b, rfl, rfl, h1, h2⟩
def t_is_whole (K : PySem.W.Frag) : TS :=
  (tRet (tAndV (tCB (rIsi K) (tCons (tVar 0) (tCons (tC (.ty "int")) tNil))) (tNotV (tCB (rIsi K) (tCons (tVar 0) (tCons (tC (.ty "bool")) tNil))))))
theorem pure_is_whole {K : PySem.W.Frag} {x : V} {H : Hp} {Q : VK} {E : XK} (h : sp_is_whole K [x] H Q E) : t_is_whole K { nx := fun _ H' => Q .non H', rt := Q } [some x] H := by
  obtain ⟨x, e, d, h, q⟩ := h
  cases e
  unfold t_is_whole
  cases h <;> (walk_at "ss"; exact q)
def t_is_day (K : PySem.W.Frag) : TS :=
  (tRet (tAndV (tCall (sp_is_whole K) [] E0 (tCons (tVar 0) tNil)) (tChain rLe rLe (tC (.int 0)) (tVar 0) (tC (.int 1000000)))))
theorem pure_is_day {K : PySem.W.Frag} {x : V} {H : Hp} {Q : VK} {E : XK} (h : sp_is_day K [x] H Q E) : t_is_day K { nx := fun _ H' => Q .non H', rt := Q } [some x] H := by
  obtain ⟨x, e, d, h, q⟩ := h
  cases e
  unfold t_is_day
  walk_at "ss"
  cases h with
  | int i =>
    refine ite_t rfl ?_
    walk_at "ss"
    refine ite_b (fun h1 => ?_) fun h1 => ?_
    · walk_at "ss"
      exact and_t h1 q
    · exact and_f h1 q
  | _ => exact q
def t_is_two_days (K : PySem.W.Frag) : TS :=
  (tRet (tAndV (tCB (rIsi K) (tCons (tVar 0) (tCons (tC (.ty "tuple")) tNil))) (tAndV (tOp rEq (tCB (rLen K) (tCons (tVar 0) tNil)) (tC (.int 2))) (tAndV (tCall (sp_is_day K) [] E0 (tCons (tOp (rIxT K) (tVar 0) (tC (.int 0))) tNil)) (tCall (sp_is_day K) [] E0 (tCons (tOp (rIxT K) (tVar 0) (tC (.int 1))) tNil))))))
theorem is2_no {ds : List PyData} (h : ds.length ≠ 2) : is2 (.tuple ds) = false := by
  match ds, h with
  | [], _ => rfl
  | [_], _ => rfl
  | [_, _], h => exact absurd rfl h
  | _ :: _ :: _ :: _, _ => rfl
theorem pure_is_two_days {K : PySem.W.Frag} {x : V} {H : Hp} {Q : VK} {E : XK} (h : sp_is_two_days K [x] H Q E) : t_is_two_days K { nx := fun _ H' => Q .non H', rt := Q } [some x] H := by
  obtain ⟨x, e, d, h, q⟩ := h
  cases e
  unfold t_is_two_days
  cases h with
  | tup n h r =>
    walk_at "ss"
    refine ite_b (fun h1 => ?_) fun h1 => ?_
    · rw [int_eq, decide_eq_true_eq] at h1
      obtain ⟨x, y, a, b, rfl, rfl, hx, hy⟩ := ats2 r (by omega)
      walk_at "ss"
      refine ite_b (fun h2 => ?_) fun h2 => ?_
      · walk_at "ss"
        exact and_t h2 q
      · exact and_f h2 q
    · rw [int_eq, decide_eq_false_iff_not] at h1
      rw [is2_no (fun z => h1 (by rw [Ats.len r, z]; rfl))] at q
      exact q
  | _ => walk_at "ss"; exact q
def t_is_stretch (K : PySem.W.Frag) : TS :=
  (tRet (tAndV (tCall (sp_is_two_days K) [] E0 (tCons (tVar 0) tNil)) (tOp rLe (tOp (rIxT K) (tVar 0) (tC (.int 0))) (tOp (rIxT K) (tVar 0) (tC (.int 1))))))
theorem isStr_no {d : PyData} (h : is2 d = false) : isStr d = false := by
  unfold isStr
  split
  · rename_i a b
    have h' : (isDay (.int a) && isDay (.int b)) = false := h
    cases e : isDay (.int a) with
    | false => rfl
    | true =>
      rw [e, Bool.true_and] at h'
      rw [h', Bool.false_and, Bool.and_false]
  · rfl
theorem isDay_int {d : PyData} (h : isDay d = true) : ∃ i, d = .int i := by
  cases d with
  | int i => exact ⟨i, rfl⟩
  | _ => cases h
theorem is2_ex {d : PyData} (h : is2 d = true) : ∃ a b, d = .tuple [.int a, .int b] ∧ isDay (.int a) = true ∧ isDay (.int b) = true := by
  unfold is2 at h
  split at h
  · obtain ⟨h1, h2⟩ := Bool.and_eq_true_iff.mp h
    obtain ⟨a, rfl⟩ := isDay_int h1
    obtain ⟨b, rfl⟩ := isDay_int h2
    exact ⟨a, b, rfl, h1, h2⟩
  · cases h
theorem pure_is_stretch {K : PySem.W.Frag} {x : V} {H : Hp} {Q : VK} {E : XK} (h : sp_is_stretch K [x] H Q E) : t_is_stretch K { nx := fun _ H' => Q .non H', rt := Q } [some x] H := by
  obtain ⟨x, e, d, h, q⟩ := h
  cases e
  unfold t_is_stretch
  walk_at "ss"
  refine ite_b (fun h1 => ?_) fun h1 => ?_
  · obtain ⟨a, b, rfl, h2, h3⟩ := is2_ex h1
    cases h with
    | tup n h r =>
      obtain ⟨x, y, _, _, rfl, e, hx, hy⟩ := ats2 r (Ats.len r)
      cases e
      cases hx
      cases hy
      walk_at "ss"
      exact and_t h3 (and_t h2 q)
  · rw [isStr_no h1] at q
    exact q
def t_is_coins (K : PySem.W.Frag) : TS :=
  (tRet (tAndV (tCall (sp_is_whole K) [] E0 (tCons (tVar 0) tNil)) (tChain rLe rLe (tC (.int 0)) (tVar 0) (tC (.int 1000000000000)))))
theorem pure_is_coins {K : PySem.W.Frag} {x : V} {H : Hp} {Q : VK} {E : XK} (h : sp_is_coins K [x] H Q E) : t_is_coins K { nx := fun _ H' => Q .non H', rt := Q } [some x] H := by
  obtain ⟨x, e, d, h, q⟩ := h
  cases e
  unfold t_is_coins
  walk_at "ss"
  cases h with
  | int i =>
    refine ite_t rfl ?_
    walk_at "ss"
    refine ite_b (fun h1 => ?_) fun h1 => ?_
    · walk_at "ss"
      exact and_t h1 q
    · exact and_f h1 q
  | _ => exact q
def t_is_nights (K : PySem.W.Frag) : TS :=
  (tRet (tAndV (tCall (sp_is_whole K) [] E0 (tCons (tVar 0) tNil)) (tChain rLe rLe (tC (.int 1)) (tVar 0) (tC (.int 14)))))
theorem pure_is_nights {K : PySem.W.Frag} {x : V} {H : Hp} {Q : VK} {E : XK} (h : sp_is_nights K [x] H Q E) : t_is_nights K { nx := fun _ H' => Q .non H', rt := Q } [some x] H := by
  obtain ⟨x, e, d, h, q⟩ := h
  cases e
  unfold t_is_nights
  walk_at "ss"
  cases h with
  | int i =>
    refine ite_t rfl ?_
    walk_at "ss"
    refine ite_b (fun h1 => ?_) fun h1 => ?_
    · walk_at "ss"
      exact and_t h1 q
    · exact and_f h1 q
  | _ => exact q
/-! Y9 (second family): drawn rules, days, stays. -/
open PySem PySem.Spec PyProof.Rows L2
def sp_Lcoins (K : PySem.W.Frag) : Sp := Sp1 fun x H Q E => ∃ (t b s : Addr), x = .ref t ∧ Tape H t b s ∧ ∀ (i : Int) (H' : Hp), Tape H' t b s → Kp [t, b] H H' → 0 ≤ i → i ≤ 1000000000000 → Q (.int i) H'
theorem g_Lcoins {K : PySem.W.Frag} {t b s : Addr} {H : Hp} {Q : VK} {E : XK} (T : Tape H t b s) (q : ∀ (i : Int) (H' : Hp), Tape H' t b s → Kp [t, b] H H' → 0 ≤ i → i ≤ 1000000000000 → Q (.int i) H') : sp_Lcoins K ([.ref t] ++ []) H Q E := ⟨_, rfl, t, b, s, rfl, T, q⟩
def sp_Lworth (K : PySem.W.Frag) : Sp := Sp2 fun x y H Q E => ∃ (t b s : Addr) (w : Wd), x = .ref t ∧ y = .str w.word ∧ Tape H t b s ∧ ∀ (v : V) (d : PyData) (H' : Hp), Tape H' t b s → Kp [t, b] H H' → Td H' v d → fitsD w d = true → Q v H'
theorem g_Lworth {K : PySem.W.Frag} {t b s : Addr} {w : Wd} {H : Hp} {Q : VK} {E : XK} (T : Tape H t b s) (q : ∀ (v : V) (d : PyData) (H' : Hp), Tape H' t b s → Kp [t, b] H H' → Td H' v d → fitsD w d = true → Q v H') : sp_Lworth K ([.ref t, .str w.word] ++ []) H Q E := ⟨_, _, rfl, t, b, s, w, rfl, rfl, T, q⟩
def sp_Lrule (K : PySem.W.Frag) : Sp := Sp2 fun x y H Q E => ∃ (t b s : Addr) (m : Int), x = .ref t ∧ y = .int m ∧ Tape H t b s ∧ 0 ≤ m ∧ m ≤ 1000000 ∧ ∀ (v : V) (r : RuleD) (H' : Hp), Tape H' t b s → Kp [t, b] H H' → RuT H' v r → r.good → Q v H'
theorem g_Lrule {K : PySem.W.Frag} {t b s : Addr} {m : Int} {H : Hp} {Q : VK} {E : XK} (T : Tape H t b s) (h0 : 0 ≤ m) (h1 : m ≤ 1000000) (q : ∀ (v : V) (r : RuleD) (H' : Hp), Tape H' t b s → Kp [t, b] H H' → RuT H' v r → r.good → Q v H') : sp_Lrule K ([.ref t, .int m] ++ []) H Q E := ⟨_, _, rfl, t, b, s, m, rfl, rfl, T, h0, h1, q⟩
def sp_Lday (K : PySem.W.Frag) : Sp := Sp1 fun x H Q E => ∃ (t b s : Addr), x = .ref t ∧ Tape H t b s ∧ ∀ (i : Int) (H' : Hp), Tape H' t b s → Kp [t, b] H H' → 0 ≤ i → i ≤ 999989 → Q (.int i) H'
theorem coins_ok {i : Int} (h0 : 0 ≤ i) (h1 : i ≤ 1000000000000) : isCoins (.int i) = true := by
  show (decide (0 ≤ i) && decide (i ≤ 1000000000000)) = true
  simp [h0, h1]
theorem nights_ok {i : Int} (h0 : 1 ≤ i) (h1 : i ≤ 14) : isNights (.int i) = true := by
  show (decide (1 ≤ i) && decide (i ≤ 14)) = true
  simp [h0, h1]
theorem deal_ok {m f : Int} (h0 : 1 ≤ m) (h1 : m ≤ 14) (h2 : 1 ≤ f) (h3 : f < m) : isDeal (.tuple [.int m, .int f]) = true := by
  show (isNights (.int m) && (decide (1 ≤ f) && decide (f < m))) = true
  rw [nights_ok h0 h1]
  simp [h2, h3]
theorem word9 {v : V} (h : v ∈ [V.str "price", .str "price", .str "price", .str "come", .str "go", .str "least", .str "most", .str "deal", .str "fee"]) : ∃ w : Wd, v = .str w.word := by
  simp only [List.mem_cons, List.not_mem_nil, or_false] at h
  rcases h with rfl | rfl | rfl | rfl | rfl | rfl | rfl | rfl | rfl
  · exact ⟨.price, rfl⟩
  · exact ⟨.price, rfl⟩
  · exact ⟨.price, rfl⟩
  · exact ⟨.come, rfl⟩
  · exact ⟨.go, rfl⟩
  · exact ⟨.least, rfl⟩
  · exact ⟨.most, rfl⟩
  · exact ⟨.deal, rfl⟩
  · exact ⟨.fee, rfl⟩
theorem g_inT {K : PySem.W.Frag} {H : Hp} {Q : VK} {p : Addr} {xs : List V} {x : V} {b : Bool} (h : H p = some (.tup xs)) (fx : flatV x = true) (fs : xs.all flatV = true) (e : inV x xs = b) (q : Q (.bl b) H) : rIn K false x (.ref p) H Q :=
  ⟨p, xs, rfl, .inr (SqT.of h), fx, fs, by rw [e, if_neg (by decide)]; exact q⟩
def t_Lcoins (K : PySem.W.Frag) : TS :=
  (tSeq (tAsg (tCall (sp_Ltake K) [] E0 (tCons (tVar 0) (tCons (tC (.int 10)) tNil))) (gName 1))
  (tSeq (tAsg (tOp rMul (tC (.int 10)) (tCall (sp_Ltake K) [] E0 (tCons (tVar 0) (tCons (tC (.int 10)) tNil)))) (gName 2))
  (tSeq (tAsg (tOp rAdd (tOp rMul (tCall (sp_Ltake K) [] E0 (tCons (tVar 0) (tCons (tOp rPow (tC (.int 10)) (tC (.int 6))) tNil))) (tOp rPow (tC (.int 10)) (tC (.int 6)))) (tCall (sp_Ltake K) [] E0 (tCons (tVar 0) (tCons (tOp rPow (tC (.int 10)) (tC (.int 6))) tNil)))) (gName 3))
  (tRet (tOp (rIxL K) (tLst (tCons (tVar 1) (tCons (tVar 2) (tCons (tOp rAdd (tVar 1) (tOp rMul (tC (.int 10)) (tVar 2))) (tCons (tVar 3) (tCons (tOp rPow (tC (.int 10)) (tC (.int 12))) tNil)))))) (tOp rDivW (tCall (sp_Ltake K) [] E0 (tCons (tVar 0) (tCons (tC (.int 9)) tNil))) (tC (.int 2))))))))
theorem pure_Lcoins {K : PySem.W.Frag} {x : V} {H : Hp} {Q : VK} {E : XK} (h : sp_Lcoins K [x] H Q E) : t_Lcoins K { nx := fun _ H' => Q .non H', rt := Q } [some x, none, none, none] H := by
  obtain ⟨x, e, t, b, s, rfl, T, q⟩ := h
  cases e
  unfold t_Lcoins
  walk_at "ss"
  rename_i a1 H1 a10 a11 T1 k1 a2 H2 a20 a21 T2 k2 a3 H3 a30 a31 T3 k3 a4 H4 a40 a41 T4 k4 p hp a5 H5 a50 a51 T5 k5 v hv
  refine q _ _ T5 (by walk_at "kp") (by omega) (by omega)
def t_Lworth (K : PySem.W.Frag) : TS :=
  (tSeq (tIfS (tTest (tOp (rIn K false) (tVar 1) (tTup (tCons (tC (.str "come")) (tCons (tC (.str "go")) tNil)))))
  (tRet (tOp rEq (tCall (sp_Ltake K) [] E0 (tCons (tVar 0) (tCons (tC (.int 3)) tNil))) (tC (.int 0))))
  tNext)
  (tSeq (tIfS (tTest (tOp (rIn K false) (tVar 1) (tTup (tCons (tC (.str "least")) (tCons (tC (.str "most")) tNil)))))
  (tRet (tOp rAdd (tC (.int 1)) (tCall (sp_Ltake K) [] E0 (tCons (tVar 0) (tCons (tOp (rIxL K) (tLst (tCons (tC (.int 4)) (tCons (tC (.int 14)) tNil))) (tCall (sp_Ltake K) [] E0 (tCons (tVar 0) (tCons (tC (.int 2)) tNil)))) tNil)))))
  tNext)
  (tSeq (tIfS (tTest (tOp rEq (tVar 1) (tC (.str "deal"))))
  (tSeq (tAsg (tOp rAdd (tC (.int 2)) (tCall (sp_Ltake K) [] E0 (tCons (tVar 0) (tCons (tOp (rIxL K) (tLst (tCons (tC (.int 3)) (tCons (tC (.int 13)) tNil))) (tCall (sp_Ltake K) [] E0 (tCons (tVar 0) (tCons (tC (.int 2)) tNil)))) tNil)))) (gName 2))
  (tSeq (tAsg (tOp rAdd (tC (.int 1)) (tCall (sp_Ltake K) [] E0 (tCons (tVar 0) (tCons (tOp rSub (tVar 2) (tC (.int 1))) tNil)))) (gName 3))
  (tRet (tOp (rIxL K) (tLst (tCons (tTup (tCons (tVar 2) (tCons (tVar 3) tNil))) (tCons (tTup (tCons (tVar 2) (tCons (tVar 3) tNil))) (tCons (tC .non) tNil)))) (tCall (sp_Ltake K) [] E0 (tCons (tVar 0) (tCons (tC (.int 3)) tNil)))))))
  tNext)
  (tSeq (tAsg (tCall (sp_Lcoins K) [] E0 (tCons (tVar 0) tNil)) (gName 4))
  (tSeq (tIfS (tAnd (tTest (tOp rEq (tVar 1) (tC (.str "price")))) (tTest (tOp rEq (tCall (sp_Ltake K) [] E0 (tCons (tVar 0) (tCons (tC (.int 5)) tNil))) (tC (.int 0)))))
  (tRet (tC .non))
  tNext)
  (tRet (tVar 4)))))))
theorem pure_Lworth {K : PySem.W.Frag} {x y : V} {H : Hp} {Q : VK} {E : XK} (h : sp_Lworth K [x, y] H Q E) : t_Lworth K { nx := fun _ H' => Q .non H', rt := Q } [some x, some y, none, none, none] H := by
  obtain ⟨x, y, e, t, b, s, w, rfl, rfl, T, q⟩ := h
  cases e
  unfold t_Lworth
  have cg : w = .come ∨ w = .go ∨ w = .least ∨ w = .most ∨ w = .deal ∨ w = .price ∨ w = .fee := by cases w <;> simp
  walk_at "ss"
  rcases cg with rfl | rfl | rfl | rfl | rfl | rfl | rfl
  · refine g_inT upd_same rfl rfl (b := true) (by decide) ?_
    walk_at "ss"
    exact q _ (.bool _) _ (by walk_at "tp") (by walk_at "kp") (.bl _) rfl
  · refine g_inT upd_same rfl rfl (b := true) (by decide) ?_
    walk_at "ss"
    exact q _ (.bool _) _ (by walk_at "tp") (by walk_at "kp") (.bl _) rfl
  · refine g_inT upd_same rfl rfl (b := false) (by decide) ?_
    walk_at "ss"
    refine g_inT upd_same rfl rfl (b := true) (by decide) ?_
    walk_at "ss"
    exact q _ (.int _) _ (by walk_at "tp") (by walk_at "kp") (.int _) (nights_ok (by omega) (by omega))
  · refine g_inT upd_same rfl rfl (b := false) (by decide) ?_
    walk_at "ss"
    refine g_inT upd_same rfl rfl (b := true) (by decide) ?_
    walk_at "ss"
    exact q _ (.int _) _ (by walk_at "tp") (by walk_at "kp") (.int _) (nights_ok (by omega) (by omega))
  · refine g_inT upd_same rfl rfl (b := false) (by decide) ?_
    walk_at "ss"
    refine g_inT upd_same rfl rfl (b := false) (by decide) ?_
    walk_at "ss"
    with_reducible refine g_seq ?_
    walk_at "ss"
    refine ite_dt rfl ?_
    with_reducible refine g_seqA ?_
    walk_at "ss"
    rename_i q0 hq0 q1 hq1 q2 hq2 d1 H1 d10 d11 T1 k1 v1 hv1 d2 H2 d20 d21 T2 k2 d3 H3 d30 d31 T3 k3 p1 hp1 p2 hp2 p3 hp3 d4 H4 d40 d41 T4 k4 v hv
    have a1 : H4 p1 = some (.tup [.int (2 + d2), .int (1 + d3)]) := at_tk k4 (by walk_at "tp") (by walk_at "at")
    have a2 : H4 p2 = some (.tup [.int (2 + d2), .int (1 + d3)]) := at_tk k4 (by walk_at "tp") (by walk_at "at")
    rcases List.mem_cons.mp hv with rfl | hv
    · exact q _ (.tuple [.int (2 + d2), .int (1 + d3)]) _ T4 (by walk_at "kp") (td_tup a1 (.cons (.int _) (.cons (.int _) .nil))) (deal_ok (by omega) (by omega) (by omega) (by omega))
    rcases List.mem_cons.mp hv with rfl | hv
    · exact q _ (.tuple [.int (2 + d2), .int (1 + d3)]) _ T4 (by walk_at "kp") (td_tup a2 (.cons (.int _) (.cons (.int _) .nil))) (deal_ok (by omega) (by omega) (by omega) (by omega))
    rcases List.mem_cons.mp hv with rfl | hv
    · exact q _ .none _ T4 (by walk_at "kp") .non rfl
    · cases hv
  · refine g_inT upd_same rfl rfl (b := false) (by decide) ?_
    walk_at "ss"
    refine g_inT upd_same rfl rfl (b := false) (by decide) ?_
    walk_at "ss"
    with_reducible refine g_seq ?_
    walk_at "ss"
    refine ite_df (by decide) ?_
    walk_at "ss"
    refine ite_dt rfl ?_
    walk_at "ss"
    refine ite_b (fun z => ?_) fun z => ?_
    · walk_at "ss"
      exact q _ .none _ (by walk_at "tp") (by walk_at "kp") .non rfl
    · walk_at "ss"
      rename_i c H1 T1 k1 c0 c1 d H2 d0 d1 T2 k2
      exact q _ (.int _) _ (by walk_at "tp") (by walk_at "kp") (.int _) (by show (isNone (.int c) || isCoins (.int c)) = true; rw [coins_ok c0 c1]; rfl)
  · refine g_inT upd_same rfl rfl (b := false) (by decide) ?_
    walk_at "ss"
    refine g_inT upd_same rfl rfl (b := false) (by decide) ?_
    walk_at "ss"
    with_reducible refine g_seq ?_
    walk_at "ss"
    refine ite_df (by decide) ?_
    walk_at "ss"
    refine ite_df (by decide) ?_
    walk_at "ss"
    rename_i c H1 T1 k1 c0 c1
    exact q _ (.int _) _ (by walk_at "tp") (by walk_at "kp") (.int _) (coins_ok c0 c1)
def t_Lrule (K : PySem.W.Frag) : TS :=
  (tSeq (tAsg (tOp (rIxL K) (tLst (tCons (tC (.str "price")) (tCons (tC (.str "price")) (tCons (tC (.str "price")) (tCons (tC (.str "come")) (tCons (tC (.str "go")) (tCons (tC (.str "least")) (tCons (tC (.str "most")) (tCons (tC (.str "deal")) (tCons (tC (.str "fee")) tNil)))))))))) (tCall (sp_Ltake K) [] E0 (tCons (tVar 0) (tCons (tC (.int 9)) tNil)))) (gName 2))
  (tSeq (tAsg (tOp (rIxL K) (tLst (tCons (tOp rSub (tCall (sp_Ltake K) [] E0 (tCons (tVar 0) (tCons (tC (.int 12)) tNil))) (tC (.int 3))) (tCons (tCall (sp_Ltake K) [] E0 (tCons (tVar 0) (tCons (tC (.int 6)) tNil))) (tCons (tUn rNeg (tVar 1)) (tCons (tC (.int 0)) tNil))))) (tCall (sp_Ltake K) [] E0 (tCons (tVar 0) (tCons (tC (.int 4)) tNil)))) (gName 3))
  (tSeq (tAsg (tCB rMin2 (tCons (tOp rPow (tC (.int 10)) (tC (.int 6))) (tCons (tCB rMax2 (tCons (tC (.int 0)) (tCons (tOp rAdd (tVar 1) (tVar 3)) tNil))) tNil))) (gName 4))
  (tSeq (tAsg (tOp rAdd (tVar 4) (tOp (rIxL K) (tLst (tCons (tC (.int 0)) (tCons (tCall (sp_Ltake K) [] E0 (tCons (tVar 0) (tCons (tC (.int 3)) tNil))) (tCons (tCall (sp_Ltake K) [] E0 (tCons (tVar 0) (tCons (tC (.int 14)) tNil))) (tCons (tC (.int 60)) (tCons (tOp rPow (tC (.int 10)) (tC (.int 6))) tNil)))))) (tCall (sp_Ltake K) [] E0 (tCons (tVar 0) (tCons (tC (.int 5)) tNil))))) (gName 5))
  (tRet (tTup (tCons (tVar 2) (tCons (tVar 4) (tCons (tCB rMin2 (tCons (tOp rPow (tC (.int 10)) (tC (.int 6))) (tCons (tVar 5) tNil))) (tCons (tCall (sp_Lworth K) [] E0 (tCons (tVar 0) (tCons (tVar 2) tNil))) tNil))))))))))
theorem pure_Lrule {K : PySem.W.Frag} {x y : V} {H : Hp} {Q : VK} {E : XK} (h : sp_Lrule K [x, y] H Q E) : t_Lrule K { nx := fun _ H' => Q .non H', rt := Q } [some x, some y, none, none, none, none] H := by
  obtain ⟨x, y, e, t, b, s, m, rfl, rfl, T, h0, h1, q⟩ := h
  cases e
  unfold t_Lrule
  walk_at "ss"
  rename_i p1 hp1 a1 H1 a10 a11 T1 k1 wv hwv a2 H2 a20 a21 T2 k2 a3 H3 a30 a31 T3 k3 p2 hp2 a4 H4 a40 a41 T4 k4 v2 hv2 a5 H5 a50 a51 T5 k5 a6 H6 a60 a61 T6 k6 p3 hp3 a7 H7 a70 a71 T7 k7 v3 hv3
  obtain ⟨w, rfl⟩ := word9 hwv
  refine g_Lworth T7 fun v d H8 T8 k8 hv hf => ?_
  walk_at "ss"
  rename_i p4 hp4
  rw [mni, mxi, mni]
  refine q _ ⟨w, min 1000000 (max 0 (m + v2)), min 1000000 (min 1000000 (max 0 (m + v2)) + v3), d⟩ _ (by walk_at "tp") (by walk_at "kp") ⟨p4, v, rfl, upd_same, td_new hp4 hv⟩ ⟨?_, ?_, ?_, hf⟩
  · show 0 ≤ min 1000000 (max 0 (m + v2)); omega
  · show min 1000000 (max 0 (m + v2)) ≤ min 1000000 (min 1000000 (max 0 (m + v2)) + v3); omega
  · show min 1000000 (min 1000000 (max 0 (m + v2)) + v3) ≤ 1000000; omega
/-! YOk: texts whose signs are signs; texts within data. -/
open PySem PySem.Spec PyProof.Rows L2
theorem ok_app (a b : Str) : PyData.strOk (a ++ b) = (PyData.strOk a && PyData.strOk b) := by
  show (a.cps ++ b.cps).all _ = (a.cps.all _ && b.cps.all _)
  rw [Array.all_append]
theorem ok_join {sep : Str} (hs : PyData.strOk sep = true) : ∀ {ts : List Str}, (∀ t ∈ ts, PyData.strOk t = true) → PyData.strOk (Str.join sep ts) = true
  | [], _ => (show PyData.strOk Str.empty = true by decide +kernel)
  | [x], h => h x (by simp)
  | x :: y :: r, h => by
    show PyData.strOk (x ++ sep ++ Str.join sep (y :: r)) = true
    rw [ok_app, ok_app, h x (by simp), hs, ok_join hs fun t ht => h t (by simp [List.mem_cons.mp ht])]
    rfl
/-- what is shown of it is a text -/
def Sok (d : PyData) : Prop := PyData.strOk d.shown = true
/-! YRl: lists of rules in the heap (second family). -/
open PySem PySem.Spec PyProof.Rows L2
/-- a list of rules' tuples stands at v -/
def RlAt (H : Hp) (v : V) (rs : List RuleD) : Prop := ∃ q xs, v = .ref q ∧ H q = some (.lst xs) ∧ Rus H xs rs
theorem same_kp {t b : Addr} {H G H' : Hp} (s : Same H G) (k : Kp [t, b] G H') (ft : Fr H t) (fb : Fr H b) : Same H H' := fun a o e => k a o (s a o e) fun m => by
  simp only [List.mem_cons, List.not_mem_nil, or_false] at m
  rcases m with rfl | rfl
  · rw [show H a = none from ft] at e; cases e
  · rw [show H a = none from fb] at e; cases e
/-! YTl: what a list of rules tells (second family). -/
open PySem PySem.Spec PyProof.Rows L2
def sp_Ltells (K : PySem.W.Frag) : Sp := Sp3 fun x u y H Q E => ∃ (p : Addr) (xs : List V) (rs : List RuleD) (w : Wd) (day : Int), x = .ref p ∧ H p = some (.lst xs) ∧ Rus H xs rs ∧ u = .str w.word ∧ y = .int day ∧ ∀ v H', Same H H' → Td H' v (tellsD rs w day) → Q v H'
def kv5 : List (Key × V) := [(.inr "come", .bl true), (.inr "go", .bl true), (.inr "least", .int 1), (.inr "most", .int 14), (.inr "fee", .int 0)]
/-! YTw: few rules drawn, a list of rules turned (second family). -/
open PySem PySem.Spec PyProof.Rows L2
theorem g_insertV {H : Hp} {Q : VK} {l : Addr} {xs : List V} {i : Int} {y : V} (h : H l = some (.lst xs)) (z : xs.length < sizeLine) (h0 : 0 ≤ i) (h1 : i < 2 ^ 63) (q : Q .non (upd H l (.lst (xs.take i.toNat ++ [y] ++ xs.drop i.toNat)))) : rInsert (.ref l) [.int i, y] H Q := ⟨l, xs, i, y, rfl, rfl, h, z, h0, h1, q⟩
theorem seq_at {n : Nat} {i : Int} (h0 : 0 ≤ i) (h1 : i < n) : seqIndex? i n = some i.toNat := by
  unfold seqIndex?
  simp
  omega
def QRules (t b s : Addr) (n : Nat) (H : Hp) (Q : VK) : Prop := ∀ (p : Addr) (ys : List V) (rs : List RuleD) (H' : Hp), Tape H' t b s → Kp [t, b] H H' → Fr H p → H' p = some (.lst ys) → Rus H' ys rs → rs.length ≤ n → (∀ r ∈ rs, RuleD.good r) → Q (.ref p) H'
def sp_Lfew (K : PySem.W.Frag) : Sp := Sp3 fun x y z H Q E => ∃ (t b s : Addr) (m n : Int), x = .ref t ∧ y = .int m ∧ z = .int n ∧ Tape H t b s ∧ 0 ≤ m ∧ m ≤ 1000000 ∧ 0 ≤ n ∧ n ≤ 30 ∧ QRules t b s (n.toNat + 1) H Q
def sp_Lturned (K : PySem.W.Frag) : Sp := Sp3 fun x y z H Q E => ∃ (t b s p : Addr) (xs : List V) (rs : List RuleD) (m : Int), x = .ref t ∧ y = .ref p ∧ z = .int m ∧ Tape H t b s ∧ SqL K H p xs ∧ Rus H xs rs ∧ (∀ r ∈ rs, RuleD.good r) ∧ rs.length ≤ 100 ∧ 0 ≤ m ∧ m ≤ 1000000 ∧ QRules t b s (rs.length + 1) H Q
/-! YCh: a chain of three comparisons as a test. -/
open PySem PySem.Spec PyProof.Rows L2
def tChain3 (r1 r2 r3 : R2) (ta tb tc td : TE) : TT := fun σ H Q => ta σ H fun x H1 => tb σ H1 fun y H2 => r1 x y H2 fun z H3 => ∃ k, z = .bl k ∧
  (if k = true then tc σ H3 fun w H4 => r2 y w H4 fun z2 H5 => ∃ k2, z2 = .bl k2 ∧ (if k2 = true then td σ H5 fun u H6 => r3 w u H6 fun z3 H7 => ∃ k3, z3 = .bl k3 ∧ Q k3 H7 else Q false H5) else Q false H3)
theorem pt_chain3 {X : Cx} {a b c d : Expr} {pos : Pos} {ta tb tc td : TE} {op op' op'' : CmpOp} {r r' r'' : R2} (ho : OpR X (compareOp op) r) (ho' : OpR X (compareOp op') r') (ho'' : OpR X (compareOp op'') r'') (ha : PE X a ta) (hb : PE X b tb) (hc : PE X c tc) (hd : PE X d td)
    (hm : lastMarks [op, op', op''] [b, c, d] = false := by with_unfolding_all rfl) : PT X (.Compare a [op, op', op''] [b, c, d] pos) (tChain3 r r' r'' ta tb tc td) := by
  refine ⟨fun pins s σ H Q I h => ?_⟩
  refine isTrue_chain (thn (ha.run pins s σ H _ I h) fun v s1 ⟨x, H1, I1, r1, q1⟩ => test_link (thn (hb.run pins s1 σ H1 _ I1 q1) fun u s2 ⟨y, H2, I2, r2, q2⟩ =>
    thn (ho pins s2 σ H2 x y v u _ I2 r1 r2 q2) fun e s3 ⟨z, H3, I3, r3, k, e1, q3⟩ => ?_)) hm
  subst e1
  cases r3
  refine wpAny_truthy_bool ?_
  cases k with
  | false => exact ite_ff ⟨H3, I3, q3⟩
  | true =>
    refine ite_tt (test_link (thn (hc.run pins s3 σ H3 _ I3 q3) fun w s4 ⟨y4, H4, I4, r4, q4⟩ => thn (ho' pins s4 σ H4 y y4 u w _ I4 r2 r4 q4) fun e s5 ⟨z2, H5, I5, r5, k2, e2, q5⟩ => ?_))
    subst e2
    cases r5
    refine wpAny_truthy_bool ?_
    cases k2 with
    | false => exact ite_ff ⟨H5, I5, q5⟩
    | true =>
      refine ite_tt (test_last (thn (hd.run pins s5 σ H5 _ I5 q5) fun w' s6 ⟨y6, H6, I6, r6, q6⟩ => thn (ho'' pins s6 σ H6 y4 y6 w w' _ I6 r4 r6 q6) fun e s7 ⟨z3, H7, I7, r7, k3, e3, q7⟩ => ?_))
      subst e3
      cases r7
      exact wpAny_truthy_bool ⟨H7, I7, q7⟩
/-! YBa: what bars a stay. -/
open PySem PySem.Spec PyProof.Rows L2
def nightsL (rs : List RuleD) (c g : Int) : List (Wd × Int) := (days c g).filterMap fun n => if soldB rs n then none else some (Wd.price, n)
def bars1 (rs : List RuleD) (c g : Int) : List (Wd × Int) := nightsL rs c g ++ if comeB rs .come c then [] else [(.come, c)]
def bars2 (rs : List RuleD) (c g : Int) : List (Wd × Int) := bars1 rs c g ++ if comeB rs .go g then [] else [(.go, g)]
def bars3 (rs : List RuleD) (c g : Int) : List (Wd × Int) := bars2 rs c g ++ if g - c < numI rs .least c then [(.least, c)] else []
def barsL (rs : List RuleD) (c g : Int) : List (Wd × Int) := bars3 rs c g ++ if g - c > numI rs .most c then [(.most, c)] else []
def barD (p : Wd × Int) : PyData := .tuple [.str p.1.word, .int p.2]
def QBar (rs : List RuleD) (c g : Int) (H : Hp) (Q : VK) : Prop := ∀ (p : Addr) (xs : List V) (H' : Hp), Same H H' → Fr H p → H' p = some (.lst xs) → Tds H' xs ((barsL rs c g).map barD) → Q (.ref p) H'
def sp_bars (K : PySem.W.Frag) : Sp := Sp2 fun v y H Q E => CFR K ∧ CFB K ∧ ∃ (F : List Addr) (rs : List RuleD) (a : Addr) (c g : Int), y = .ref a ∧ BookAt K H F v rs ∧ (∀ r ∈ rs, RuleD.good r) ∧ SqT K H a [.int c, .int g] ∧ (c - 1000 ≤ g ∧ g ≤ c + 1000 ∧ -10000000 ≤ c ∧ c ≤ 10000000) ∧ QBar rs c g H Q
/-! YBi: bills of stays whose nights are sold. -/
open PySem PySem.Spec PyProof.Rows L2
def pricesL (rs : List RuleD) (c g : Int) : List Int := (days c g).map fun n => numI rs .price n
def dealO (rs : List RuleD) (c : Int) : Option (Int × Int) := match tellsD rs .deal c with | .tuple [.int m, .int f] => some (m, f) | _ => none
def marksL (rs : List RuleD) (c g : Int) : List Bool := mkO (pricesL rs c g) (dealO rs c)
def rowOf (rs : List RuleD) (c g : Int) (i : Nat) : Int × Int × Bool := ((days c g).getD i 0, (pricesL rs c g).getD i 0, (marksL rs c g).getD i false)
def rowsL (rs : List RuleD) (c g : Int) : List (Int × Int × Bool) := (List.range (days c g).length).map (rowOf rs c g)
def rowD (r : Int × Int × Bool) : PyData := .tuple [.int r.1, .int r.2.1, .bool r.2.2]
def paidL (rs : List RuleD) (c g : Int) : List Int := (rowsL rs c g).filterMap fun r => if r.2.2 then none else some r.2.1
def sumD (rs : List RuleD) (c g : Int) : Int := numI rs .fee c + (paidL rs c g).sum
def SoldAll (rs : List RuleD) (c g : Int) : Prop := ∀ n ∈ days c g, soldB rs n = true
def QBill (rs : List RuleD) (c g : Int) (H : Hp) (Q : VK) : Prop := ∀ (p q : Addr) (xs : List V) (H' : Hp), Same H H' → Fr H p → Fr H q → H' p = some (.tup [.int (sumD rs c g), .ref q, .int (numI rs .fee c)]) → H' q = some (.lst xs) → Tds H' xs ((rowsL rs c g).map rowD) → Q (.ref p) H'
def sp_bill (K : PySem.W.Frag) : Sp := Sp2 fun v y H Q E => CFR K ∧ CFB K ∧ ∃ (F : List Addr) (rs : List RuleD) (a : Addr) (c g : Int), y = .ref a ∧ BookAt K H F v rs ∧ (∀ r ∈ rs, RuleD.good r) ∧ SqT K H a [.int c, .int g] ∧ (c ≤ g ∧ g ≤ c + 900 ∧ -10000000 ≤ c ∧ c ≤ 10000000) ∧ SoldAll rs c g ∧ QBill rs c g H Q
/-! YE: errors: raised, let out of defs, caught; the caught one is kept in the heap. -/
open PySem PySem.Spec PyProof.Rows L2
/-- an error that is kept at a: its class, its dict -/
def exK (a : Addr) (cls : Value) (d : Option Addr) : HO := .ext fun h => ∃ oe, h.get? a = some oe ∧ Zc cls d oe ∧ ∃ vs, oe.data = .fields vs
section
variable {P : Program} {w : World} {H : Hp} {h : Heap} {a : Addr} {cls : Value} {d : Option Addr}
end
section
variable {X : Cx} {pins : List (Addr × Obj)} {σ : L2.St} {H : Hp} {s : Shared} {a : Addr} {oe : Obj} {vs : Array Value} {cls : Value} {d : Option Addr}
end
/-- what the clause «except c as n» wishes of an error: n's slot is i; the error stays in the heap -/
def wKp (K : PySem.W.Frag) (c : Value) (i : Nat) (ts : TS) (Wout : WX) (D : Ends) : WX := fun cls d σ H =>
  ∃ b, PySem.W.exmOne K cls c = some b ∧
    (b = true → ∀ a, H a = none → ts { nx := fun τ H' => D.nx (τ.set i none) H', rt := D.rt, bk := fun τ H' => D.bk (τ.set i none) H', ct := fun τ H' => D.ct (τ.set i none) H' } (σ.set i (some (.ref a))) (upd H a (exK a cls d))) ∧
    (b = false → Wout cls d σ H)
/-- try: body / except c as n: suite -/
def tTryK (K : PySem.W.Frag) (c : Value) (i : Nat) (tb : WX → TS) (ts : TS) (Wout : WX) : TS := fun D σ H => tb (wKp K c i ts Wout D) D σ H
/-- try: body / except c: suite -/
def tTryO (K : PySem.W.Frag) (c : Value) (tb : WX → TS) (ts : TS) (Wout : WX) : TS := fun D σ H => tb (wOnly K c (fun _ _ _ => ts) Wout D) D σ H
section
variable {X : Cx} {x n : Str} {c : Value} {i : Nat} {body suite : List Stmt} {b₀ : Stmt} {np pos pos' : Pos} {tb : WX → TS} {ts : TS} {Wout : WX}
end

/-! ### what a kept error tells -/
/-- an error's class -/
structure ErrC (K : PySem.W.Frag) (x : Str) : Prop where
  ga : PySem.W.findIn K (.ref (He.ga K x)) "__getattribute__" = some (some (.builtin "BaseException.__getattribute__"))
  gg : PySem.W.findIn K (.ref (He.ga K x)) "__getattr__" = some none
  be : PySem.W.subIn K (.ref (He.ga K x)) (.type "BaseException") = some true
  hd : PySem.W.hasDictIn K (He.ga K x) = true
  ty : tyB K (He.ga K x) = true
  tt : PySem.W.typeIn K (.ref (He.ga K x)) = some (.type "type")
  kp : PySem.W.keepIn K (.ref (He.ga K x)) = true
  ic : PySem.W.isClsIn K (He.ga K x) = true
section
variable {K : PySem.W.Frag} {L : List Str} {x y : Str}
end
/-- at a: a kept error of the class x, its fields fs -/
def ExAt (K : PySem.W.Frag) (H : Hp) (a : Addr) (x : Str) (fs : List (Str × V)) : Prop := errB K x = true ∧
  ((fs = [] ∧ H a = some (exK a (.ref (He.ga K x)) none)) ∨ ∃ dd, H a = some (exK a (.ref (He.ga K x)) (some dd)) ∧ H dd = some (.xd fs))
/-- isinstance(e, c), e an error that is kept -/
def rIsK (K : PySem.W.Frag) : List V → Hp → VK → Prop := fun xs H Q => ∃ (a : Addr) (x : Str) (fs : List (Str × V)) (c : V) (cv : Value) (b : Bool), xs = [.ref a, c] ∧ ExAt K H a x fs ∧ (∀ u, RelV c u → u = cv) ∧
  PySem.W.kitOne K (.ref (He.ga K x)) cv = some b ∧ Q (.bl b) H
/-- e.f, e an error that is kept -/
def tXat (K : PySem.W.Frag) (te : TE) (f : Str) : TE := fun σ H Q => te σ H fun v H1 => ∃ (a : Addr) (x : Str) (fs : List (Str × V)) (y : V), v = .ref a ∧ ExAt K H1 a x fs ∧ PySem.W.findIn K (.ref (He.ga K x)) f = some none ∧ fs.lookup f = some y ∧ Q y H1
/-! ### what may let errors out -/
abbrev XW (E : XK) : WX := fun cls d _ H => E cls d H
section
variable {X : Cx} {CX : CXT} {k j : Nat} {f C : Addr} {fd : FuncData} {ps : List Str} {sp : Sp} {dvs : List V} {ds : List Value} {E : L2.St → XK} {W : WX} {x m : Str} {p pos apos : Pos} {e o : Expr} {es : List Expr} {ta : TE} {t : TA} {pins : List (Addr × Obj)} {σ : L2.St} {H : Hp} {s : Shared} {Q : VK} {us : List Value} {vs : List V}
/-- a call, a class that is made, a method, that may let an error out -/
def tCallX (sp : Sp) (dvs : List V) (W : WX) (t : TA) : TE := fun σ H Q => t σ H fun vs H1 => sp (vs ++ dvs) H1 Q (WE W σ)
def tMakeX (C : Addr) (sp : Sp) (dvs : List V) (W : WX) (t : TA) : TE := fun σ H Q => t σ H fun vs H1 => ∀ x dx, H1 x = none → H1 dx = none → dx ≠ x → sp (.ref x :: (vs ++ dvs)) (upd (upd H1 dx (.own x)) x (.ins C dx [])) (fun v H2 => v = .non ∧ Q (.ref x) H2) (WE W σ)
def tMethX (C : Addr) (m : Str) (sp : Sp) (dvs : List V) (W : WX) (ta : TE) (t : TA) : TE := fun σ H Q => ta σ H fun x H1 => ∃ a dx fs, x = .ref a ∧ H1 a = some (.ins C dx fs) ∧ fs.lookup m = none ∧ t σ H1 fun vs H2 => sp (.ref a :: (vs ++ dvs)) H2 Q (WE W σ)
/-- raise x('..'), x without own __init__ -/
def tRaiseB (K : PySem.W.Frag) (x : Str) (W : WX) : TS := fun _ σ H => exBare x K = true ∧ W (.ref (He.ga K x)) none σ H
end

/-! ### errors with an own __init__ -/
/-- StayError.__init__(self, ..) -/
def tStI (K : PySem.W.Frag) (ta : TA) : TE := fun σ H Q => exStay K = true ∧ ta σ H fun vs H1 => ∃ (a C : Addr) (ws : List V), vs = .ref a :: ws ∧ ws.length ≤ 1000 ∧ OexC K C ∧ H1 a = some (exo a C none) ∧ Q .non H1
section
variable {X : Cx} {W : WX} {p p1 p2 pos : Pos} {e : Expr} {es : List Expr} {ta : TA}
end
/-- what the __init__ of an error keeps: the field f -/
def sp_xinit (K : PySem.W.Frag) (x f : Str) : Sp := Sp2 fun v y H Q E => exInit x f K = true ∧ ∃ a, v = .ref a ∧ H a = some (exo a (He.ga K x) none) ∧ ∀ d, H d = none → d ≠ a → Q .non (upd (upd H d (exd d [(f, y)])) a (exo a (He.ga K x) (some d)))
def t_xinit (K : PySem.W.Frag) (f z : Str) : TS := tSeq (tDrop (tStI K (tCons (tVar 0) (tCons (tC (.str z)) tNil)))) (tOst K f (tVar 0) (tVar 1))
/-- the __init__ of an error's class -/
structure XIn (P : Program) (w : World) (K : PySem.W.Frag) (mg : Str → Option Value) (base : Heap) (k : Nat) (x f : Str) : Prop where
  ex : ∃ (fI : Addr) (fd : FuncData) (ps : List Str), FnOk P w K mg base CX0 k fI fd ps (sp_xinit K x f) ∧ mg x = some (.ref (He.ga K x)) ∧ Binds K fd ps [] ∧ PySem.W.findIn K (.ref (He.ga K x)) "__init__" = some (some (.ref fI)) ∧ PySem.W.typeIn K (.ref fI) = some (.type "function")
/-- raise x(e), x with its own __init__ -/
def rRaiseI (K : PySem.W.Frag) (x f : Str) (W : WX) (σ : L2.St) (y : V) (H1 : Hp) : Prop := [y].length ≤ 1000 ∧ ∀ a, H1 a = none → sp_xinit K x f (.ref a :: ([y] ++ [])) (upd H1 a (exo a (He.ga K x) none))
  (fun v H2 => v = .non ∧ ∃ (d : Addr) (fs : List (Str × V)), H2 a = some (exo a (He.ga K x) (some d)) ∧ H2 d = some (exd d fs) ∧ H1 d = none ∧ W (.ref (He.ga K x)) (some d) σ (upd (L2.del H2 a) d (.xd fs))) (fun _ _ _ => False)
def tRaiseI (K : PySem.W.Frag) (x f : Str) (W : WX) (te : TE) : TS := fun _ σ H => exInit x f K = true ∧ te σ H fun y H1 => rRaiseI K x f W σ y H1
section
variable {X : Cx} {W : WX} {k j : Nat} {x f : Str} {p pos pos' : Pos} {e : Expr} {te : TE}
end
/-! YBx: books of things that may be no rules, or too many. -/
open PySem PySem.Spec PyProof.Rows L2
/-- all are rules -/
def AllR (ds : List PyData) (rs : List RuleD) : Prop := ds.map asRule = rs.map some
def spx_Book_init (K : PySem.W.Frag) : Sp := Sp2 fun v y H Q E => CFR K ∧ CFB K ∧ exInit "NoRule" "number" K = true ∧ exBare "TooMany" K = true ∧ ∃ (a dx : Addr) (xs : List V) (ds : List PyData), v = .ref a ∧ H a = some (.ins (He.ga K "Book") dx []) ∧
  ((y = .non ∧ xs = []) ∨ ∃ p, y = .ref p ∧ SqL K H p xs) ∧ Paired (At H [a]) xs ds ∧ ds.length ≤ 1000 ∧
  (∀ i d dd H', ds[i]? = some d → asRule d = none → (∃ rs, AllR (ds.take i) rs) → Kp [a] H H' → H' dd = some (.xd [("number", .int (i : Nat))]) → E (.ref (He.ga K "NoRule")) (some dd) H') ∧
  (∀ rs H', AllR ds rs → 24 < rs.length → Kp [a] H H' → E (.ref (He.ga K "TooMany")) none H') ∧
  ∀ rs H' F, AllR ds rs → rs.length ≤ 24 → Kp [a] H H' → BookAt K H' F v rs → (∀ p ∈ F, Fr H p) → Q .non H'
/-! YLd: books laid over books. -/
open PySem PySem.Spec PyProof.Rows L2
def sp_laid (K : PySem.W.Frag) : Sp := Sp2 fun v u H Q E => CFR K ∧ CFB K ∧ ∃ F1 r1 F2 r2, BookAt K H F1 v r1 ∧ BookAt K H F2 u r2 ∧ r1.length + r2.length ≤ 24 ∧ (∀ r ∈ r1, RuleD.good r) ∧ (∀ r ∈ r2, RuleD.good r) ∧
  ∀ x F H', Same H H' → BookAt K H' F x (r1 ++ r2) → (∀ p ∈ F, Fr H p) → Q x H'
/-! YLx: books made, laid, of which some are refused: what the callers see. -/
open PySem PySem.Spec PyProof.Rows L2
/-- e.f of a kept error -/
def rXat (K : PySem.W.Frag) (f : Str) (v : V) (H1 : Hp) (Q : VK) : Prop := ∃ (a : Addr) (x : Str) (fs : List (Str × V)) (y : V), v = .ref a ∧ ExAt K H1 a x fs ∧ PySem.W.findIn K (.ref (He.ga K x)) f = some none ∧ fs.lookup f = some y ∧ Q y H1
def spx_laid (K : PySem.W.Frag) : Sp := Sp2 fun v u H Q E => CFR K ∧ CFB K ∧ exInit "NoRule" "number" K = true ∧ exBare "TooMany" K = true ∧ ∃ F1 r1 F2 r2, BookAt K H F1 v r1 ∧ BookAt K H F2 u r2 ∧ r1.length ≤ 24 ∧ r2.length ≤ 24 ∧ (∀ r ∈ r1, RuleD.good r) ∧ (∀ r ∈ r2, RuleD.good r) ∧
  (24 < r1.length + r2.length → ∀ H', Same H H' → E (.ref (He.ga K "TooMany")) none H') ∧
  (r1.length + r2.length ≤ 24 → ∀ x F H', Same H H' → BookAt K H' F x (r1 ++ r2) → (∀ p ∈ F, Fr H p) → Q x H')
/-! YCo: whether a stay can be had, what it costs. -/
open PySem PySem.Spec PyProof.Rows L2
def hadB (rs : List RuleD) (c g : Int) : Bool := decide (numI rs .least c ≤ g - c) && (decide (g - c ≤ numI rs .most c) && (comeB rs .come c && (comeB rs .go g && (days c g).all (soldB rs))))
def coinO (rs : List RuleD) (c g : Int) : Option Int := if hadB rs c g then some (sumD rs c g) else none
def BkOk (K : PySem.W.Frag) (H : Hp) (v y : V) (rs : List RuleD) (c g : Int) : Prop := ∃ (F : List Addr) (a : Addr), y = .ref a ∧ BookAt K H F v rs ∧ (∀ r ∈ rs, RuleD.good r) ∧ SqT K H a [.int c, .int g] ∧ (c ≤ g ∧ g ≤ c + 900 ∧ -10000000 ≤ c ∧ c ≤ 10000000)
def sp_can_be_had (K : PySem.W.Frag) : Sp := Sp2 fun v y H Q E => CFR K ∧ CFB K ∧ ∃ rs c g, BkOk K H v y rs c g ∧ ∀ H', Same H H' → Q (.bl (hadB rs c g)) H'
def sp_coins_of (K : PySem.W.Frag) : Sp := Sp2 fun v y H Q E => CFR K ∧ CFB K ∧ ∃ rs c g, BkOk K H v y rs c g ∧ ∀ H', Same H H' → Q (if hadB rs c g then .int (sumD rs c g) else .non) H'
def spx_cost (K : PySem.W.Frag) : Sp := Sp2 fun v y H Q E => CFR K ∧ CFB K ∧ exInit "Barred" "bars" K = true ∧ ∃ rs c g, BkOk K H v y rs c g ∧ (hadB rs c g = true → ∀ H', Same H H' → Q (.int (sumD rs c g)) H') ∧
  (hadB rs c g = false → ∀ (p dd : Addr) (xs : List V) (H' : Hp), Same H H' → Fr H p → H' p = some (.lst xs) → Tds H' xs ((barsL rs c g).map barD) → H' dd = some (.xd [("bars", .ref p)]) → E (.ref (He.ga K "Barred")) (some dd) H')
/-! YDi: dicts by whole numbers. -/
open PySem PySem.Spec PyProof.Rows L2
abbrev Df := Int → Option PyData
def OTd (H : Hp) : Option V → Option PyData → Prop
  | some v, some d => Td H v d
  | none, none => True
  | _, _ => False
/-- a dict of whole numbers stands at a -/
def DicI (H : Hp) (a : Addr) (F : Df) : Prop := ∃ (kvs : List (Key × V)) (ks : List Int), H a = some (.dK kvs) ∧ kvs.map (·.1) = ks.map Sum.inl ∧ ks.Nodup ∧ ∀ i : Int, OTd H (valV kvs (.inl i)) (F i)
def dset (F : Df) (i : Int) (d : PyData) : Df := fun j => if j = i then some d else F j
abbrev rSortDI : List V → Hp → VK → Prop := fun xs H Q => ∃ (a : Addr) (kvs : List (Key × V)) (ks : List Int), xs = [.ref a] ∧ Rd H a (.dK kvs) ∧ kvs.map (·.1) = ks.map Sum.inl ∧ ks.length < 64 ∧
    ∀ (ys : List Int) (p : Addr), ys.Perm ks → ys.Pairwise (· ≤ ·) → H p = none → Q (.ref p) (upd H p (.lst (ys.map V.int)))
/-! YTn: texts of no rule: the law's own reading, odd words. -/
open PySem PySem.Spec PyProof.Rows L2 TL
theorem inV_strs (x : Str) (ws : List Str) : inV (.str x) (ws.map V.str) = decide (x ∈ ws) := by
  unfold inV
  rw [List.any_map]
  have : ((fun y => eqV y (V.str x)) ∘ V.str) = fun n => n == x := rfl
  rw [this]
  cases h : decide (x ∈ ws) with
  | true => exact List.any_eq_true.mpr ⟨x, of_decide_eq_true h, by simp⟩
  | false =>
    refine List.any_eq_false.mpr fun y hx => ?_
    have := of_decide_eq_false h
    simp
    exact fun z => this (z ▸ hx)
theorem strs_flat (ws : List Str) : (ws.map V.str).all flatV = true := by
  rw [List.all_eq_true]
  intro x hx
  obtain ⟨i, -, rfl⟩ := List.mem_map.mp hx
  rfl
theorem g_inW {K : PySem.W.Frag} {H : Hp} {Q : VK} {p : Addr} (ws : List Str) {x : Str} (h : SqT K H p (ws.map V.str)) (q : Q (.bl (decide (x ∈ ws))) H) : rIn K false (.str x) (.ref p) H Q := ⟨p, _, rfl, .inr h, rfl, strs_flat ws, by rw [inV_strs]; exact q⟩
theorem g_ninW {K : PySem.W.Frag} {H : Hp} {Q : VK} {p : Addr} (ws : List Str) {x : Str} (h : SqT K H p (ws.map V.str)) (q : Q (.bl (!decide (x ∈ ws))) H) : rIn K true (.str x) (.ref p) H Q := ⟨p, _, rfl, .inr h, rfl, strs_flat ws, by rw [inV_strs]; exact q⟩
theorem g_yesno {σ : L2.St} {H : Hp} {Q : VK} {ty tx : TE} (h : ∀ d, ∀ H1, Same H H1 → H1 d = some (.dK [(.inr "yes", .bl true), (.inr "no", .bl false)]) → ty σ H1 fun y H2 => tx σ H2 fun z H3 => ∃ o, DGet H3 d y o ∧ Q (o.getD z) H3) :
    tDGet2 (tDisp [(tC (.str "yes"), tC (.bl true)), (tC (.str "no"), tC (.bl false))]) ty tx σ H Q := fun p hp => by
  refine ⟨upd_same, [(.inr "yes", .bl true), (.inr "no", .bl false)], rfl, by simp, p, rfl, .inl ⟨_, .inl upd_same⟩, ?_⟩
  refine h p _ (fun a o e => ?_) upd_same
  have n : a ≠ p := by
    rintro rfl
    rw [hp] at e
    cases e
  simp [upd, n, e]
theorem cst {k : Bool → Hp → Prop} {H : Hp} {a b : Bool} (e : a = b) (h : k b H) : k a H := by rw [e]; exact h
theorem g_chain3 {r1 r2 r3 : R2} {ta tb tc td : TE} {σ : L2.St} {H : Hp} {Q : Bool → Hp → Prop} (h : ta σ H fun x H1 => tb σ H1 fun y H2 => r1 x y H2 fun z H3 => ∃ k, z = .bl k ∧ if k = true then tc σ H3 fun w H4 => r2 y w H4 fun z2 H5 => ∃ k2, z2 = .bl k2 ∧ if k2 = true then td σ H5 fun u H6 => r3 w u H6 fun z3 H7 => ∃ k3, z3 = .bl k3 ∧ Q k3 H7 else Q false H5 else Q false H3) : tChain3 r1 r2 r3 ta tb tc td σ H Q := h
def numN : Option Nat → Int | some n => (n : Nat) | none => -1
def sp_Lnumber (K : PySem.W.Frag) : Sp := Sp1 fun u H Q E => ∃ x : Str, u = .str x ∧ x.length ≤ 640 ∧ ∀ H', Same H H' → Q (.int (numN (numO x))) H'
theorem g_Lnumber {K : PySem.W.Frag} {x : Str} {H : Hp} {Q : VK} {E : XK} (l : x.length ≤ 640) (q : ∀ H', Same H H' → Q (.int (numN (numO x))) H') : sp_Lnumber K ([.str x] ++ []) H Q E := ⟨_, rfl, x, rfl, l, q⟩
theorem g_glst {K : PySem.W.Frag} {H : Hp} {σ : L2.St} {Q : L2.St → Hp → Prop} {p : Addr} {n : Nat} {t : TGs} {xs : List V} (h : SqL K H p xs) (l : xs.length = n) (q : t xs σ H Q) : gLst K n t (.ref p) σ H Q := ⟨p, xs, rfl, h, l, q⟩
theorem dig_cnt (l : List Nat) : (l.filterMap fun c => if digB c = true then none else some (V.str ⟨#[c]⟩)).length = 0 ↔ l.all digB = true := by
  rw [List.length_eq_zero_iff, List.filterMap_eq_nil_iff, List.all_eq_true]
  constructor
  · intro h c hc
    have := h c hc
    cases e : digB c with
    | true => rfl
    | false => rw [e] at this; cases this
  · intro h c hc
    rw [h c hc]
    rfl
theorem numN_pos {x : Str} (h : 0 ≤ numN (numO x)) : figS (numN (numO x)).toNat = x := by
  cases e : numO x with
  | none => rw [e] at h; exact absurd (show (0 : Int) ≤ -1 from h) (by decide)
  | some m => exact numO_iff.mp e
theorem numN_fig (i : Int) (h : 0 ≤ i) : numN (numO (figS i.toNat)) = i := by rw [numO_fig]; show ((i.toNat : Nat) : Int) = i; omega
theorem numN_low (o : Option Nat) : -1 ≤ numN o := by
  cases o with
  | none => exact Int.le_refl _
  | some n => show (-1 : Int) ≤ (n : Nat); omega
/-- the worth of a word that words write, or -1 -/
def ByQ (H : Hp) (Q : VK) (w : Wd) (ws : List Str) : Prop := (∀ d, fitsD w d = true → worthW d = ws → ∀ v H', Same H H' → Td H' v d → Q v H') ∧ ((∀ d, fitsD w d = true → worthW d ≠ ws) → ∀ H', Same H H' → Q (.int (-1)) H')
def sp_Lpair (K : PySem.W.Frag) : Sp := Sp1 fun u H Q E => ∃ (p : Addr) (a b : Str), u = .ref p ∧ H p = some (.lst [.str a, .str b]) ∧ a.length ≤ 640 ∧ b.length ≤ 640 ∧ ByQ H Q .deal [a, b]
theorem g_Lpair {K : PySem.W.Frag} {p : Addr} {a b : Str} {H : Hp} {Q : VK} {E : XK} (h : H p = some (.lst [.str a, .str b])) (la : a.length ≤ 640) (lb : b.length ≤ 640) (q : ByQ H Q .deal [a, b]) : sp_Lpair K ([.ref p] ++ []) H Q E := ⟨_, rfl, p, a, b, rfl, h, la, lb, q⟩
def sp_Lworth_by (K : PySem.W.Frag) : Sp := Sp2 fun u v H Q E => ∃ (w : Wd) (p : Addr) (ws : List Str), u = .str w.word ∧ v = .ref p ∧ H p = some (.lst (ws.map V.str)) ∧ ws.length ≤ 1000 ∧ (∀ x ∈ ws, PyData.strOk x = true ∧ x.length ≤ 640) ∧ ByQ H Q w ws
theorem g_Lworth_by {K : PySem.W.Frag} {w : Wd} {p : Addr} {ws : List Str} {H : Hp} {Q : VK} {E : XK} (h : H p = some (.lst (ws.map V.str))) (l : ws.length ≤ 1000) (o : ∀ x ∈ ws, PyData.strOk x = true ∧ x.length ≤ 640) (q : ByQ H Q w ws) : sp_Lworth_by K ([.str w.word, .ref p] ++ []) H Q E := ⟨_, _, rfl, w, p, ws, rfl, rfl, h, l, o, q⟩
def sp_Ldue (K : PySem.W.Frag) : Sp := Sp1 fun u H Q E => ∃ z : Str, u = .str z ∧ PyData.strOk z = true ∧ z.length ≤ 640 ∧ (byO z = none → ∀ H', Same H H' → Q .non H') ∧ ∀ r, byO z = some r → ∀ v H', Same H H' → RuT H' v r → Q v H'
theorem g_Ldue {K : PySem.W.Frag} {z : Str} {H : Hp} {Q : VK} {E : XK} (o : PyData.strOk z = true) (l : z.length ≤ 640) (q1 : byO z = none → ∀ H', Same H H' → Q .non H') (q2 : ∀ r, byO z = some r → ∀ v H', Same H H' → RuT H' v r → Q v H') : sp_Ldue K ([.str z] ++ []) H Q E := ⟨_, rfl, z, rfl, o, l, q1, q2⟩
def sp_Lright (K : PySem.W.Frag) : Sp := Sp1 fun u H Q E => CFR K ∧ ∃ z : Str, u = .str z ∧ PyData.strOk z = true ∧ z.length ≤ 640 ∧ ∀ H', Same H H' → Q (.bl true) H'
theorem g_Lright {K : PySem.W.Frag} {z : Str} {H : Hp} {Q : VK} {E : XK} (c : CFR K) (o : PyData.strOk z = true) (l : z.length ≤ 640) (q : ∀ H', Same H H' → Q (.bl true) H') : sp_Lright K ([.str z] ++ []) H Q E := ⟨_, rfl, c, z, rfl, o, l, q⟩
def WdOk (z : Str) : Prop := PyData.strOk z = true ∧ z.length ≤ 70
def sp_Lodd (K : PySem.W.Frag) : Sp := Sp1 fun x H Q E => ∃ t b s, x = .ref t ∧ Tape H t b s ∧ ∀ z H', Tape H' t b s → Kp [t, b] H H' → WdOk z → Q (.str z) H'
theorem g_Lodd {K : PySem.W.Frag} {t b s : Addr} {H : Hp} {Q : VK} {E : XK} (T : Tape H t b s) (q : ∀ z H', Tape H' t b s → Kp [t, b] H H' → WdOk z → Q (.str z) H') : sp_Lodd K ([.ref t] ++ []) H Q E := ⟨_, rfl, t, b, s, rfl, T, q⟩
def sp_Lbent (K : PySem.W.Frag) : Sp := Sp2 fun x y H Q E => ∃ t b s z, x = .ref t ∧ y = .str z ∧ PyData.strOk z = true ∧ z.length ≤ 60 ∧ Tape H t b s ∧ ∀ z H', Tape H' t b s → Kp [t, b] H H' → PyData.strOk z = true → z.length ≤ 400 → Q (.str z) H'
theorem g_Lbent {K : PySem.W.Frag} {t b s : Addr} {z : Str} {H : Hp} {Q : VK} {E : XK} (o : PyData.strOk z = true) (l : z.length ≤ 60) (T : Tape H t b s) (q : ∀ z H', Tape H' t b s → Kp [t, b] H H' → PyData.strOk z = true → z.length ≤ 400 → Q (.str z) H') : sp_Lbent K ([.ref t, .str z] ++ []) H Q E := ⟨_, _, rfl, t, b, s, z, rfl, rfl, o, l, T, q⟩
theorem g_in6 {n m : Nat} {f l : Int} {σ : L2.St} {H : Hp} {Q : Bool → Hp → Prop} (ef : σ[n]? = some (some (.int f))) (el : σ[m]? = some (some (.int l))) (q : Q (decide (0 ≤ f ∧ f ≤ l ∧ l ≤ 1000000)) H) : tChain3 rLe rLe rLe (tC (.int 0)) (tVar n) (tVar m) (tOp rPow (tC (.int 10)) (tC (.int 6))) σ H Q := by
  refine g_chain3 ?_
  walk_at "ss"
  refine ⟨_, ef, ?_⟩
  walk_at "ss"
  refine ite_d (fun c1 => ?_) fun c1 => ?_
  · refine ⟨_, el, ?_⟩
    walk_at "ss"
    refine ite_d (fun c2 => ?_) fun c2 => ?_
    · walk_at "ss"
      refine cst (k := Q) ?_ q
      rw [Bool.eq_iff_iff, decide_eq_true_eq, decide_eq_true_eq]
      omega
    · refine cst (k := Q) ?_ q
      rw [decide_eq_false (by omega)]
  · refine cst (k := Q) ?_ q
    rw [decide_eq_false (by omega)]
def t_Lnumber (K : PySem.W.Frag) : TS :=
  (tSeq (tIfS (tOr (tTest (tOp rEq (tCB rLenS (tCons (tVar 0) tNil)) (tC (.int 0)))) (tTest (tOp rGt (tCB (rLen K) (tCons (tLc (iStr (tVar 0)) (gName 1) (tTest (tOp Y.rNotInS (tVar 1) (tC (.str "0123456789")))) (tVar 1) [1]) tNil)) (tC (.int 0)))))
  (tRet (tUn rNeg (tC (.int 1))))
  tNext)
  (tSeq (tIfS (tAnd (tTest (tOp rGt (tCB rLenS (tCons (tVar 0) tNil)) (tC (.int 1)))) (tTest (tOp rEq (tOp rIxS (tVar 0) (tC (.int 0))) (tC (.str "0")))))
  (tRet (tUn rNeg (tC (.int 1))))
  tNext)
  (tRet (tCB Y.rIntS (tCons (tVar 0) tNil)))))
theorem pure_Lnumber {K : PySem.W.Frag} {x : V} {H : Hp} {Q : VK} {E : XK} (h : sp_Lnumber K [x] H Q E) : t_Lnumber K { nx := fun _ H' => Q .non H', rt := Q } [some x, none] H := by
  obtain ⟨x, e, z, rfl, l, q⟩ := h
  cases e
  unfold t_Lnumber
  have yes : ∀ {H'}, Same H H' → ∀ n, numO z = some n → Q (.int (n : Nat)) H' := fun s n e => by have := q _ s; rwa [e] at this
  have no : ∀ {H'}, Same H H' → numO z = none → Q (.int (-1)) H' := fun s e => by have := q _ s; rwa [e] at this
  clear q
  have nc : canB (tl z) = false → numO z = none := fun e => by unfold numO; rw [e]; rfl
  have fin : ∀ {H'}, Same H H' → canB (tl z) = true → rIntS [.str z] H' Q := fun s cz => by
    obtain ⟨n, hn⟩ : ∃ n, numO z = some n := by unfold numO; rw [if_pos cz]; exact ⟨_, rfl⟩
    exact g_intS hn l (yes s n hn)
  have zs : z.length = z.cps.size := rfl
  walk_at "ss"
  refine ⟨z, rfl, sz_of (by omega), ?_⟩
  walk_at "ss"
  rw [int_eq]
  refine ite_d (fun z0 => ?_) fun z0 => ?_
  · walk_at "ss"
    refine no (Same.refl _) (nc ?_)
    have : tl z = [] := List.length_eq_zero_iff.mp (by rw [← len_tl]; omega)
    rw [this]; rfl
  walk_at "ss"
  with_reducible refine g_iStr ?_
  walk_at "ss"
  refine g_exS ?_
  refine lc_w walk_str (fun i => (z.cps[i]?).bind fun c => if digB c = true then none else some (V.str ⟨#[c]⟩)) (by omega) (fun _ _ => trivial) ?_ ?_
  · rintro D i xj H6 H7 N hD hi s6 ⟨rfl, c, hc, rfl⟩ hy hn2
    rw [hc, Option.bind_some] at hy hn2
    walk_at "ss"
    refine g_notInS ?_
    rw [fig_in]
    refine ⟨_, rfl, ?_⟩
    cases e : digB c with
    | true =>
      rw [e] at hn2
      exact hn2 _ rfl (Same.refl _)
    | false =>
      rw [e] at hy
      walk_at "ss"
      exact hy _ _ rfl (Same.refl _)
  intro D H' hD s' h'
  have e1 : (List.range z.cps.size).filterMap (fun i => (z.cps[i]?).bind fun c => if digB c = true then none else some (V.str ⟨#[c]⟩)) = (tl z).filterMap fun c => if digB c = true then none else some (V.str ⟨#[c]⟩) := by
    have := range_flt (tl z) fun c => if digB c = true then none else some (V.str ⟨#[c]⟩)
    have e1 : (fun (i : Nat) => (z.cps[i]?).bind fun c => if digB c = true then none else some (V.str ⟨#[c]⟩)) = fun (i : Nat) => ((tl z)[i]?).bind fun c => if digB c = true then none else some (V.str ⟨#[c]⟩) := by
      funext i
      rw [Array.getElem?_toList]
    rw [e1, show z.cps.size = (tl z).length by simp [tl], this]
  rw [e1] at h'
  have dc := dig_cnt (tl z)
  generalize (tl z).filterMap (fun c => if digB c = true then none else some (V.str ⟨#[c]⟩)) = bad at h' dc
  walk_at "ss"
  refine ite_d (fun z1 => ?_) fun z1 => ?_
  · walk_at "ss"
    refine no s' (nc ?_)
    have : (tl z).all digB = false := by
      cases e : (tl z).all digB with
      | false => rfl
      | true => have := dc.mpr e; omega
    unfold canB
    rw [this]; rfl
  have hd : (tl z).all digB = true := dc.mp (by omega)
  obtain ⟨c, r, ecr⟩ : ∃ c r, tl z = c :: r := by
    cases e : tl z with
    | nil => rw [len_tl, e] at z0; exact absurd rfl z0
    | cons c r => exact ⟨c, r, rfl⟩
  walk_at "ss"
  refine ⟨z, rfl, sz_of (by omega), ?_⟩
  walk_at "ss"
  refine ite_d (fun z2 => ?_) fun z2 => ?_
  · walk_at "ss"
    refine ⟨z, 0, c, rfl, rfl, sz_of (by omega), ?_, ?_⟩
    · show atI (tl z) 0 = some c
      rw [ecr]
      exact atI_nat (j := 0) rfl
    walk_at "ss"
    rw [str_eq]
    refine ite_d (fun z3 => ?_) fun z3 => ?_
    · walk_at "ss"
      refine no s' (nc ?_)
      have c48 : c = 48 := by
        have e : tl (⟨#[c]⟩ : Str) = tl "0" := by rw [z3]
        have e2 : [c] = [48] := e
        exact (List.cons.inj e2).1
      unfold canB
      have n48 : tl z ≠ [48] := fun e => by rw [len_tl, e] at z2; exact absurd z2 (by decide)
      rw [decide_eq_false n48, ecr, c48]
      simp
    · walk_at "ss"
      refine fin s' ?_
      unfold canB
      have : (tl z).head? ≠ some 48 := by
        rw [ecr]
        intro e
        have e : c = 48 := Option.some.inj e
        rw [e] at z3
        exact z3 (by decide)
      rw [hd, decide_eq_false this, ecr]
      simp
  · walk_at "ss"
    refine fin s' ?_
    unfold canB
    have r0 : r = [] := by
      rw [len_tl, ecr] at z2
      cases r with
      | nil => rfl
      | cons a b => exact absurd (by simp; omega) z2
    rw [hd, ecr, r0]
    by_cases e : c = 48
    · subst e; rfl
    · rw [show decide (([c] : List Nat).head? = some 48) = false from decide_eq_false fun h => e (Option.some.inj h)]; rfl
def t_Lpair (K : PySem.W.Frag) : TS :=
  (tSeq (tAsg (tLc (iList K (tVar 0)) (gName 3) tYes (tCall (sp_Lnumber K) [] E0 (tCons (tVar 3) tNil)) [3]) (gLst K 2 (gCons (gName 1) (gCons (gName 2) gNil))))
  (tSeq (tIfS (tAnd (tTest (tChain rLe rLe (tC (.int 2)) (tVar 1) (tC (.int 14)))) (tTest (tChain rLe rLt (tC (.int 1)) (tVar 2) (tVar 1))))
  (tRet (tTup (tCons (tVar 1) (tCons (tVar 2) tNil))))
  tNext)
  (tRet (tUn rNeg (tC (.int 1))))))
theorem pure_Lpair {K : PySem.W.Frag} {x : V} {H : Hp} {Q : VK} {E : XK} (h : sp_Lpair K [x] H Q E) : t_Lpair K { nx := fun _ H' => Q .non H', rt := Q } [some x, none, none, none] H := by
  obtain ⟨x, e, p, a, b, rfl, h, la, lb, q1, q2⟩ := h
  cases e
  unfold t_Lpair
  walk_at "ss"
  refine lc_w (walk_list (K := K) (a := p) (xs := [.str a, .str b])) (fun i => match i with | 0 => some (V.int (numN (numO a))) | _ => some (V.int (numN (numO b)))) (by simp) (fun H' s => SqL.of (s _ _ h)) ?_ ?_
  · rintro D i xj H6 H7 N hD hi s6 ⟨rfl, hx⟩ hy hn2
    match i, hx with
    | 0, hx =>
      cases hx
      walk_at "ss"
      refine g_Lnumber la fun H8 s8 => ?_
      walk_at "ss"
      exact hy _ _ rfl s8
    | 1, hx =>
      cases hx
      walk_at "ss"
      refine g_Lnumber lb fun H8 s8 => ?_
      walk_at "ss"
      exact hy _ _ rfl s8
  intro D H' hD s' h'
  have e1 : (List.range [V.str a, V.str b].length).filterMap (fun i => match i with | 0 => some (V.int (numN (numO a))) | _ => some (V.int (numN (numO b)))) = [V.int (numN (numO a)), V.int (numN (numO b))] := by
    simp [List.range_succ]
  rw [e1] at h'
  refine g_glst (SqL.of h') rfl ?_
  have s0 : Same H H' := s'
  have fin : (2 ≤ numN (numO a) ∧ numN (numO a) ≤ 14 ∧ 1 ≤ numN (numO b) ∧ numN (numO b) < numN (numO a)) → ∀ p H8, Same H' H8 → H8 p = some (.tup [.int (numN (numO a)), .int (numN (numO b))]) → Q (.ref p) H8 := fun ⟨c1, c2, c3, c4⟩ p H8 s8 h8 => by
    refine q1 (.tuple [.int (numN (numO a)), .int (numN (numO b))]) ?_ ?_ _ _ (s0.trans s8) (.tup h8 (.cons (.int _) (.cons (.int _) .nil)))
    · show isDeal (.tuple [.int (numN (numO a)), .int (numN (numO b))]) = true
      unfold isDeal
      dsimp only
      rw [show isNights (.int (numN (numO a))) = (decide (1 ≤ numN (numO a)) && decide (numN (numO a) ≤ 14)) from rfl]
      simp only [Bool.and_eq_true, decide_eq_true_eq]
      refine ⟨⟨by omega, by omega⟩, by omega, by omega⟩
    · show [figS _, figS _] = _
      rw [numN_pos (by omega), numN_pos (by omega)]
  have no : ¬ (2 ≤ numN (numO a) ∧ numN (numO a) ≤ 14 ∧ 1 ≤ numN (numO b) ∧ numN (numO b) < numN (numO a)) → Q (.int (-1)) H' := fun c => by
    refine q2 (fun d fd e => c ?_) _ s0
    rcases fits_kind fd with ⟨rfl, -⟩ | ⟨x, rfl, -⟩ | ⟨i, rfl, -⟩ | ⟨m, f, rfl, m0, m1, f0, f1, -⟩
    · cases (List.cons.inj e).2
    · cases (List.cons.inj e).2
    · cases (List.cons.inj e).2
    · obtain ⟨e1, e2⟩ := List.cons.inj e
      obtain ⟨e2, -⟩ := List.cons.inj e2
      rw [← e1, ← e2, numN_fig m (by omega), numN_fig f (by omega)]
      omega
  clear q1 q2
  generalize numN (numO a) = m at *
  generalize numN (numO b) = f at *
  walk_at "ss"
  dsimp only [List.set]
  refine ite_d (fun c1 => ?_) fun c1 => ?_
  · walk_at "ss"
    refine ite_d (fun c2 => ?_) fun c2 => ?_
    · walk_at "ss"
      refine ite_d (fun c3 => ?_) fun c3 => ?_
      · walk_at "ss"
        refine ite_d (fun c4 => ?_) fun c4 => ?_
        · walk_at "ss"
          rename_i pp hpp
          exact fin ⟨c1, c2, c3, c4⟩ _ _ (same_new hpp) upd_same
        · walk_at "ss"
          exact no fun h => c4 h.2.2.2
      · walk_at "ss"
        exact no fun h => c3 h.2.2.1
    · walk_at "ss"
      exact no fun h => c2 h.2.1
  · walk_at "ss"
    exact no fun h => c1 h.1
def t_Lworth_by (K : PySem.W.Frag) : TS :=
  (tSeq (tIfS (tAnd (tTest (tOp rEq (tVar 0) (tC (.str "deal")))) (tTest (tOp rEq (tCB (rLen K) (tCons (tVar 1) tNil)) (tC (.int 2)))))
  (tRet (tCall (sp_Lpair K) [] E0 (tCons (tVar 1) tNil)))
  tNext)
  (tSeq (tIfS (tTest (tOp rNe (tCB (rLen K) (tCons (tVar 1) tNil)) (tC (.int 1))))
  (tRet (tUn rNeg (tC (.int 1))))
  tNext)
  (tSeq (tIfS (tAnd (tTest (tOp (rEqD K) (tVar 1) (tLst (tCons (tC (.str "none")) tNil)))) (tTest (tOp (rIn K false) (tVar 0) (tTup (tCons (tC (.str "price")) (tCons (tC (.str "deal")) tNil))))))
  (tRet (tC .non))
  tNext)
  (tSeq (tIfS (tTest (tOp (rIn K false) (tVar 0) (tTup (tCons (tC (.str "come")) (tCons (tC (.str "go")) tNil)))))
  (tRet (tDGet2 (tDisp [((tC (.str "yes")), (tC (.bl true))), ((tC (.str "no")), (tC (.bl false)))]) (tOp (rIxL K) (tVar 1) (tC (.int 0))) (tUn rNeg (tC (.int 1)))))
  tNext)
  (tSeq (tAsg (tCall (sp_Lnumber K) [] E0 (tCons (tOp (rIxL K) (tVar 1) (tC (.int 0))) tNil)) (gName 2))
  (tSeq (tIfS (tAnd (tTest (tOp (rIn K false) (tVar 0) (tTup (tCons (tC (.str "price")) (tCons (tC (.str "fee")) tNil))))) (tTest (tOp rLe (tVar 2) (tOp rPow (tC (.int 10)) (tC (.int 12))))))
  (tRet (tVar 2))
  tNext)
  (tSeq (tIfS (tAnd (tTest (tOp (rIn K false) (tVar 0) (tTup (tCons (tC (.str "least")) (tCons (tC (.str "most")) tNil))))) (tTest (tChain rLe rLe (tC (.int 1)) (tVar 2) (tC (.int 14)))))
  (tRet (tVar 2))
  tNext)
  (tRet (tUn rNeg (tC (.int 1)))))))))))
theorem pure_Lworth_by {K : PySem.W.Frag} {x y : V} {H : Hp} {Q : VK} {E : XK} (h : sp_Lworth_by K [x, y] H Q E) : t_Lworth_by K { nx := fun _ H' => Q .non H', rt := Q } [some x, some y, none] H := by
  obtain ⟨x, y, e, w, p, ws, rfl, rfl, hp, hl, ho, q1, q2⟩ := h
  cases e
  unfold t_Lworth_by
  have fin : ∀ {H' : Hp} {v : V} {d : PyData}, Same H H' → fitsD w d = true → worthW d = ws → Td H' v d → Q v H' := fun s f e t => q1 _ f e _ _ s t
  have no : ∀ {H' : Hp}, Same H H' → (∀ d, fitsD w d = true → worthW d ≠ ws) → Q (.int (-1)) H' := fun s n => q2 n _ s
  have okw : ∀ x ∈ ws, PyData.strOk x = true := fun x hx => (ho x hx).1
  clear q1 q2
  with_reducible refine g_seq ?_
  with_reducible refine g_ifS ?_
  refine cutT (decide (w = .deal) && decide (ws.length = 2)) (fun k' hk => ?_) ?_
  · walk_at "ss"
    have ew : decide (V.str w.word = V.str "deal") = decide (w = .deal) := by cases w <;> decide
    rw [ew]
    refine ite_b (fun z => ?_) fun z => ?_
    · rw [z, Bool.true_and] at hk
      walk_at "ss"
      rw [List.length_map]
      refine cst (b := decide (ws.length = 2)) ?_ hk
      rw [Bool.eq_iff_iff, decide_eq_true_eq, decide_eq_true_eq, V.int.injEq]
      omega
    · rw [z, Bool.false_and] at hk
      exact hk
  refine ite_b (fun z => ?_) fun z => ?_
  · rw [Bool.and_eq_true, decide_eq_true_eq, decide_eq_true_eq] at z
    obtain ⟨rfl, z⟩ := z
    obtain ⟨a, b, rfl⟩ : ∃ a b, ws = [a, b] := by
      match ws, z with
      | [a, b], _ => exact ⟨a, b, rfl⟩
    walk_at "ss"
    refine g_Lpair hp (ho a (by simp)).2 (ho b (by simp)).2 ⟨fun d f e v H' s t => fin s f e t, fun n H' s => no s n⟩
  have n2 : ∀ d, fitsD w d = true → worthW d = ws → ws.length = 1 := fun d f e => by
    rcases fits_kind f with ⟨rfl, -⟩ | ⟨x, rfl, -⟩ | ⟨i, rfl, -⟩ | ⟨m, f, rfl, m0, m1, f0, f1, rfl⟩
    · rw [← e]; rfl
    · rw [← e]; rfl
    · rw [← e]; rfl
    · rw [← e] at z
      have z' : (decide (Wd.deal = Wd.deal) && decide (2 = 2)) = false := z
      exact absurd z' (by decide)
  walk_at "ss"
  rw [List.length_map]
  refine ite_nd (fun z1 => ?_) fun z1 => ?_
  · obtain ⟨a, rfl⟩ : ∃ a, ws = [a] := by
      rw [V.int.injEq] at z1
      match ws, z1 with
      | [a], _ => exact ⟨a, rfl⟩
      | [], z1 => exact absurd z1 (by decide)
      | _ :: _ :: _, z1 => simp at z1; omega
    obtain ⟨oa, la⟩ := ho a (by simp)
    have fi : ∀ {H' : Hp}, Same H H' → ∀ n : Int, 0 ≤ n → n = numN (numO a) → fitsD w (.int n) = true → Q (.int n) H' := fun s n n0 e f => by
      subst e
      exact fin s f (by show [figS _] = _; rw [numN_pos n0]) (.int _)
    with_reducible refine g_next ?_
    with_reducible refine jn (P := fun σ H' => σ = [some (.str w.word), some (.ref p), none] ∧ Same H H' ∧ ¬ (a = "none" ∧ (w = .price ∨ w = .deal))) ?_ fun N hN => ?_
    · rintro σ H1 ⟨rfl, s1, n1⟩
      have hp1 := s1 _ _ hp
      walk_at "ss"
      rename_i p2 hp2
      have S := s1.trans (same_new (o := .tup [.str "come", .str "go"]) hp2)
      have hp2' : (upd H1 p2 (.tup [.str "come", .str "go"])) p = some (.lst ([a].map V.str)) := at_new hp2 hp1
      refine g_inW ["come", "go"] (SqT.of upd_same) ?_
      rw [show decide (w.word ∈ (["come", "go"] : List Str)) = decide (w = .come ∨ w = .go) by cases w <;> decide]
      walk_at "ss"
      refine ite_d (fun z3 => ?_) fun z3 => ?_
      · walk_at "ss"
        refine g_yesno fun d H3 s3 h3 => ?_
        have h3p := s3 _ _ hp2'
        have S3 := S.trans s3
        walk_at "ss"
        refine ⟨_, DGet.k (k := .inr a) h3, ?_⟩
        have bf : ∀ b, fitsD w (.bool b) = true := fun b => by rcases z3 with rfl | rfl <;> rfl
        by_cases y1 : a = "yes"
        · subst y1
          exact fin (d := .bool true) S3 (bf _) rfl (.bl _)
        by_cases y2 : a = "no"
        · subst y2
          exact fin (d := .bool false) S3 (bf _) rfl (.bl _)
        have e : valV [((.inr "yes" : Key), V.bl true), (.inr "no", .bl false)] (.inr a) = none := by
          unfold valV
          rw [List.find?_cons_of_neg (by simp; exact fun e => y1 e.symm), List.find?_cons_of_neg (by simp; exact fun e => y2 e.symm)]
          rfl
        rw [e]
        refine no S3 fun d f e => ?_
        rcases fits_kind f with ⟨rfl, hw⟩ | ⟨x, rfl, -⟩ | ⟨i, rfl, i0, i1, hw⟩ | ⟨m, f, rfl, m0, m1, f0, f1, hw⟩
        · rcases z3 with rfl | rfl <;> simp at hw
        · have e := (List.cons.inj e).1
          cases x
          · exact y2 e.symm
          · exact y1 e.symm
        · rcases z3 with rfl | rfl <;> simp at hw
        · rcases z3 with rfl | rfl <;> simp at hw
      · walk_at "ss"
        refine g_Lnumber la fun H4 s4 => ?_
        have S4 := S.trans s4
        clear s4
        have bad : (∀ i : Int, 0 ≤ i → i ≤ 1000000000000 → (w = .price ∨ w = .least ∨ w = .most ∨ w = .fee) → fitsD w (.int i) = true → numN (numO a) ≠ i) → ∀ {H' : Hp}, Same H H' → Q (.int (-1)) H' := fun bd H' s => no s fun d f e => by
          rcases fits_kind f with ⟨rfl, hw⟩ | ⟨x, rfl, hw⟩ | ⟨i, rfl, i0, i1, hw⟩ | ⟨m, f, rfl, m0, m1, f0, f1, hw⟩
          · exact n1 ⟨(List.cons.inj e).1.symm, hw⟩
          · exact z3 hw
          · refine bd i i0 i1 hw f ?_
            rw [← (List.cons.inj e).1, numN_fig i i0]
          · cases (List.cons.inj e).2
        have low := numN_low (numO a)
        clear no
        generalize numN (numO a) = m at *
        walk_at "ss"
        dsimp only [List.set]
        rename_i p5 hp5
        have S5 := S4.trans (same_new (o := .tup [.str "price", .str "fee"]) hp5)
        refine g_inW ["price", "fee"] (SqT.of upd_same) ?_
        rw [show decide (w.word ∈ (["price", "fee"] : List Str)) = decide (w = .price ∨ w = .fee) by cases w <;> decide]
        refine ⟨_, rfl, ?_⟩
        refine ite_d (fun z4 => ?_) fun z4 => ?_
        · walk_at "ss"
          refine ite_d (fun z6 => ?_) fun z6 => ?_
          · walk_at "ss"
            by_cases m0 : 0 ≤ m
            · refine fi S5 m m0 rfl ?_
              have : isCoins (.int m) = true := by
                rw [show isCoins (.int m) = (decide (0 ≤ m) && decide (m ≤ 1000000000000)) from rfl, decide_eq_true m0, decide_eq_true z6]
                rfl
              rcases z4 with rfl | rfl
              · show (isNone (.int m) || isCoins (.int m)) = true
                rw [this]
                rfl
              · exact this
            · rw [show m = -1 by omega]
              exact bad (fun i i0 i1 _ _ => by omega) S5
          · walk_at "ss"
            rename_i p6 hp6
            have S6 := S5.trans (same_new (o := .tup [.str "least", .str "most"]) hp6)
            refine g_inW ["least", "most"] (SqT.of upd_same) ?_
            rw [show decide (w.word ∈ (["least", "most"] : List Str)) = decide (w = .least ∨ w = .most) by cases w <;> decide]
            refine ⟨_, rfl, ?_⟩
            refine ite_df (by rcases z4 with rfl | rfl <;> decide) ?_
            walk_at "ss"
            exact bad (fun i i0 i1 _ _ => by omega) S6
        · walk_at "ss"
          rename_i p6 hp6
          have S6 := S5.trans (same_new (o := .tup [.str "least", .str "most"]) hp6)
          refine g_inW ["least", "most"] (SqT.of upd_same) ?_
          rw [show decide (w.word ∈ (["least", "most"] : List Str)) = decide (w = .least ∨ w = .most) by cases w <;> decide]
          refine ⟨_, rfl, ?_⟩
          have nt : (w = .least ∨ w = .most) → ∀ i, fitsD w (.int i) = (decide (1 ≤ i) && decide (i ≤ 14)) := fun h i => by rcases h with rfl | rfl <;> rfl
          refine ite_d (fun z5 => ?_) fun z5 => ?_
          · walk_at "ss"
            refine ite_d (fun c1 => ?_) fun c1 => ?_
            · walk_at "ss"
              refine ite_d (fun c2 => ?_) fun c2 => ?_
              · walk_at "ss"
                exact fi S6 m (by omega) rfl (by rw [nt z5, decide_eq_true c1, decide_eq_true c2]; rfl)
              · walk_at "ss"
                exact bad (fun i _ _ _ f e => c2 (by rw [nt z5, Bool.and_eq_true, decide_eq_true_eq, decide_eq_true_eq] at f; omega)) S6
            · walk_at "ss"
              exact bad (fun i _ _ _ f e => c1 (by rw [nt z5, Bool.and_eq_true, decide_eq_true_eq, decide_eq_true_eq] at f; omega)) S6
          · walk_at "ss"
            refine bad (fun i _ _ h _ _ => ?_) S6
            rcases h with h | h | h | h
            · exact z4 (.inl h)
            · exact z5 (.inl h)
            · exact z5 (.inr h)
            · exact z4 (.inr h)
    · walk_at "ss"
      rename_i p1 hp1
      refine g_eqStrs (xs := [a]) (ys := [("none" : Str)]) (SqL.of (at_new hp1 hp)) (SqL.of upd_same) okw (fun x hx => by rw [List.mem_singleton.mp hx]; decide +kernel) ?_
      walk_at "ss"
      refine ite_d (fun z2 => ?_) fun z2 => ?_
      · walk_at "ss"
        rename_i p2 hp2
        have S := (same_new (o := .lst [.str "none"]) hp1).trans (same_new (o := .tup [.str "price", .str "deal"]) hp2)
        refine g_inW ["price", "deal"] (SqT.of upd_same) ?_
        rw [show decide (w.word ∈ (["price", "deal"] : List Str)) = decide (w = .price ∨ w = .deal) by cases w <;> decide]
        walk_at "ss"
        refine ite_d (fun z3 => ?_) fun z3 => ?_
        · walk_at "ss"
          exact fin (d := .none) S (by rcases z3 with rfl | rfl <;> rfl) (by rw [z2]; rfl) .non
        · walk_at "ss"
          exact hN _ _ ⟨rfl, S, fun e => z3 e.2⟩
      · walk_at "ss"
        exact hN _ _ ⟨rfl, same_new hp1, fun e => z2 (by rw [e.1])⟩
  · walk_at "ss"
    exact no (Same.refl _) fun d f e => z1 (by rw [n2 d f e]; rfl)
def t_Ldue (K : PySem.W.Frag) : TS :=
  (tSeq (tAsg (tM1 Y.rSplit (tVar 0) (tC (.str " "))) (gName 1))
  (tSeq (tIfS (tOr (tTest (tOp rLt (tCB (rLen K) (tCons (tVar 1) tNil)) (tC (.int 4)))) (tTest (tOp (rIn K true) (tOp (rIxL K) (tVar 1) (tC (.int 0))) (tTup (tCons (tC (.str "price")) (tCons (tC (.str "come")) (tCons (tC (.str "go")) (tCons (tC (.str "least")) (tCons (tC (.str "most")) (tCons (tC (.str "deal")) (tCons (tC (.str "fee")) tNil)))))))))))
  (tRet (tC .non))
  tNext)
  (tSeq (tAsg (tLc (iList K (tSl (rSlL K) (tVar 1) (tPart (tC (.int 1))) (tPart (tC (.int 3))))) (gName 5) tYes (tCall (sp_Lnumber K) [] E0 (tCons (tVar 5) tNil)) [5]) (gLst K 2 (gCons (gName 2) (gCons (gName 3) gNil))))
  (tSeq (tAsg (tCall (sp_Lworth_by K) [] E0 (tCons (tOp (rIxL K) (tVar 1) (tC (.int 0))) (tCons (tSl (rSlL K) (tVar 1) (tPart (tC (.int 3))) tNoPart) tNil))) (gName 4))
  (tSeq (tIfS (tOr (tNot (Y.tChain3 rLe rLe rLe (tC (.int 0)) (tVar 2) (tVar 3) (tOp rPow (tC (.int 10)) (tC (.int 6))))) (tAnd (tB (tCB (rIsi K) (tCons (tVar 4) (tCons (tC (.ty "int")) tNil)))) (tAnd (tNot (tB (tCB (rIsi K) (tCons (tVar 4) (tCons (tC (.ty "bool")) tNil))))) (tTest (tOp rLt (tVar 4) (tC (.int 0)))))))
  (tRet (tC .non))
  tNext)
  (tRet (tTup (tCons (tOp (rIxL K) (tVar 1) (tC (.int 0))) (tCons (tVar 2) (tCons (tVar 3) (tCons (tVar 4) tNil)))))))))))
theorem pure_Ldue {K : PySem.W.Frag} {x : V} {H : Hp} {Q : VK} {E : XK} (h : sp_Ldue K [x] H Q E) : t_Ldue K { nx := fun _ H' => Q .non H', rt := Q } [some x, none, none, none, none, none] H := by
  obtain ⟨x, e, z, rfl, ok, l, q1, q2⟩ := h
  cases e
  unfold t_Ldue
  walk_at "ss"
  refine g_m1 ?_
  walk_at "ss"
  refine g_isS ?_
  walk_at "ss"
  rw [sp_one]
  refine g_split (by omega) fun p H1 s1 f1 h1 => ?_
  have okw : ∀ x ∈ cutS1 32 z, PyData.strOk x = true ∧ x.length ≤ 640 := fun x hx => ⟨ok_cut (by decide) ok hx, Nat.le_trans (cut_each (by decide) hx) l⟩
  have lw := cut_len (s := 32) (by decide) z
  have back := join_cut (s := 32) (by decide) z
  have isr : ∀ r, byO z = some r → cutS1 32 z = ruleW r := fun r e => by
    obtain ⟨g, e⟩ := by_iff.mp e
    rw [← e, words_rule g]
  generalize hws : cutS1 32 z = ws at h1 okw lw isr
  walk_at "ss"
  rw [List.length_map]
  refine ite_d (fun z0 => ?_) fun z0 => ?_
  · walk_at "ss"
    refine q1 ?_ _ s1
    cases e : byO z with
    | none => rfl
    | some r =>
      have := isr r e
      have g := (by_iff.mp e).1
      have := worth_len g.2.2.2
      rw [isr r e] at z0
      simp [ruleW] at z0
      omega
  obtain ⟨w0, w1, w2, rest, rfl⟩ : ∃ w0 w1 w2 rest, ws = w0 :: w1 :: w2 :: rest := by
    match ws, z0 with
    | [], z0 => simp at z0
    | [_], z0 => simp at z0
    | [_, _], z0 => simp at z0
    | w0 :: w1 :: w2 :: rest, _ => exact ⟨w0, w1, w2, rest, rfl⟩
  have o1 := okw w1 (by simp)
  have o2 := okw w2 (by simp)
  have o3 : ∀ x ∈ rest, PyData.strOk x = true ∧ x.length ≤ 640 := fun x hx => okw x (by simp [hx])
  walk_at "ss"
  rename_i p2 hp2
  refine g_ninW wordsL (SqT.of upd_same) ?_
  walk_at "ss"
  refine ite_nd (fun z3 => ?_) fun z3 => ?_
  rotate_left
  · walk_at "ss"
    refine q1 ?_ _ (s1.trans (same_new hp2))
    cases e : byO z with
    | none => rfl
    | some r =>
      refine absurd ?_ z3
      rw [(List.cons.inj (isr r e)).1]
      cases r.w <;> decide
  obtain ⟨w, rfl⟩ : ∃ w : Wd, w.word = w0 := by
    simp only [wordsL, List.map_cons, List.map_nil, List.mem_cons, List.not_mem_nil, or_false] at z3
    rcases z3 with rfl | rfl | rfl | rfl | rfl | rfl | rfl
    · exact ⟨.price, rfl⟩
    · exact ⟨.come, rfl⟩
    · exact ⟨.go, rfl⟩
    · exact ⟨.least, rfl⟩
    · exact ⟨.most, rfl⟩
    · exact ⟨.deal, rfl⟩
    · exact ⟨.fee, rfl⟩
  have s2 := s1.trans (same_new (o := .tup (wordsL.map V.str)) hp2)
  have h2 : (upd H1 p2 (.tup (wordsL.map V.str))) p = some (.lst ((w.word :: w1 :: w2 :: rest).map V.str)) := at_new hp2 h1
  change tNext _ _ (upd H1 p2 (.tup (wordsL.map V.str)))
  generalize (upd H1 p2 (.tup (wordsL.map V.str))) = G at s2 h2
  walk_at "ss"
  rename_i p4 hp4
  refine lc_w (walk_list (K := K) (a := p4) (xs := [.str w1, .str w2])) (fun i => match i with | 0 => some (V.int (numN (numO w1))) | _ => some (V.int (numN (numO w2)))) (by simp) (fun H' s => SqL.of (s _ _ upd_same)) ?_ ?_
  · rintro D i xj H6 H7 N hD hi s6 ⟨rfl, hx⟩ hy hn2
    match i, hx with
    | 0, hx =>
      cases hx
      walk_at "ss"
      refine g_Lnumber o1.2 fun H8 s8 => ?_
      walk_at "ss"
      exact hy _ _ rfl s8
    | 1, hx =>
      cases hx
      walk_at "ss"
      refine g_Lnumber o2.2 fun H8 s8 => ?_
      walk_at "ss"
      exact hy _ _ rfl s8
  intro D H' hD s' h'
  have e1 : (List.range [V.str w1, V.str w2].length).filterMap (fun i => match i with | 0 => some (V.int (numN (numO w1))) | _ => some (V.int (numN (numO w2)))) = [V.int (numN (numO w1)), V.int (numN (numO w2))] := by
    simp [List.range_succ]
  rw [e1] at h'
  refine g_glst (SqL.of h') rfl ?_
  have h2' := s' _ _ (at_new hp4 h2)
  have s2' := s2.trans ((same_new hp4).trans s')
  walk_at "ss"
  dsimp only [List.set]
  rename_i p6 hp6
  have s6 := s2'.trans (same_new (o := .lst (rest.map V.str)) hp6)
  have h6 : (upd H' p6 (.lst (rest.map V.str))) p = some (.lst ((w.word :: w1 :: w2 :: rest).map V.str)) := at_new hp6 h2'
  change sp_Lworth_by K _ (upd H' p6 (.lst (rest.map V.str))) _ _
  refine g_Lworth_by (ws := rest) upd_same (by simp at lw; omega) o3 ⟨fun d f e v H8 s8 t8 => ?_, fun n H8 s8 => ?_⟩
  · have S8 := s6.trans s8
    have h8 := s8 _ _ h6
    walk_at "ss"
    refine g_in6 rfl rfl ?_
    have iff : (0 ≤ numN (numO w1) ∧ numN (numO w1) ≤ numN (numO w2) ∧ numN (numO w2) ≤ 1000000) → byO z = some ⟨w, numN (numO w1), numN (numO w2), d⟩ := fun ⟨c1, c2, c3⟩ => by
      refine by_iff.mpr ⟨⟨c1, c2, c3, f⟩, ?_⟩
      rw [← back, hws]
      show Txt.join " " (w.word :: figS _ :: figS _ :: worthW d) = _
      rw [numN_pos c1, numN_pos (by omega), e, sp_one]
    have iff' : ¬ (0 ≤ numN (numO w1) ∧ numN (numO w1) ≤ numN (numO w2) ∧ numN (numO w2) ≤ 1000000) → byO z = none := fun c => by
      cases e : byO z with
      | none => rfl
      | some r =>
        exfalso
        have er := isr r e
        obtain ⟨⟨g0, g1, g2, -⟩, -⟩ := by_iff.mp e
        unfold ruleW at er
        injection er with e0 er
        injection er with e1 er
        injection er with e2 e3
        refine c ?_
        rw [e1, e2, numN_fig _ g0, numN_fig _ (by omega)]
        exact ⟨g0, g1, g2⟩
    clear isr back hws lw okw z0 h' e1 hD hp4
    generalize numN (numO w1) = m1 at *
    generalize numN (numO w2) = m2 at *
    rw [← decide_not]
    refine ite_d (fun c => ?_) fun c => ?_
    · walk_at "ss"
      exact q1 (iff' c) _ S8
    · have br := iff (Decidable.not_not.mp c)
      clear iff iff' q1
      have fin := fun q H9 s9 => q2 _ br q H9 (S8.trans s9)
      clear q2
      rcases fits_kind f with ⟨rfl, -⟩ | ⟨b, rfl, -⟩ | ⟨i, rfl, i0, i1, -⟩ | ⟨mm, ff, rfl, -⟩
      · cases t8
        walk_at "ss"
        rename_i p9 hp9
        exact fin _ _ (same_new hp9) ⟨p9, _, rfl, upd_same, .non⟩
      · cases t8
        walk_at "ss"
        rename_i p9 hp9
        exact fin _ _ (same_new hp9) ⟨p9, _, rfl, upd_same, .bl _⟩
      · cases t8
        walk_at "ss"
        refine ite_df (by omega) ?_
        walk_at "ss"
        rename_i p9 hp9
        exact fin _ _ (same_new hp9) ⟨p9, _, rfl, upd_same, .int _⟩
      · obtain ⟨q, rfl, hq⟩ := td_twoI t8
        walk_at "ss"
        rename_i p9 hp9
        exact fin _ _ (same_new hp9) ⟨p9, _, rfl, upd_same, td_same (same_new hp9) t8⟩
  · have S8 := s6.trans s8
    have bn : byO z = none := by
      cases e : byO z with
      | none => rfl
      | some r =>
        exfalso
        have er := isr r e
        obtain ⟨g, -⟩ := by_iff.mp e
        unfold ruleW at er
        injection er with e0 er
        injection er with e1 er
        injection er with e2 e3
        obtain rfl := Wd.word_inj e0
        exact n r.d g.2.2.2 e3.symm
    walk_at "ss"
    refine g_in6 rfl rfl ?_
    rw [← decide_not]
    refine ite_d (fun c => ?_) fun c => ?_
    · walk_at "ss"
      exact q1 bn _ S8
    · walk_at "ss"
      refine ite_dt (by decide) ?_
      walk_at "ss"
      exact q1 bn _ S8
def t_Lodd (K : PySem.W.Frag) : TS :=
  (tSeq (tAsg (tLst (tCons (tC (.str "")) (tCons (tC (.str "00")) (tCons (tC (.str "01")) (tCons (tC (.str "-1")) (tCons (tC (.str "+1")) (tCons (tC (.str "none")) (tCons (tC (.str "yes")) (tCons (tC (.str "no")) (tCons (tC (.str "True")) (tCons (tC (.str "1000001")) (tCons (tC (.str "1000000")) tNil)))))))))))) (gName 1))
  (tSeq (tAsg (tOp rCat (tVar 1) (tLst (tCons (tC (.str "1000000000001")) (tCons (tC (.str "15")) (tCons (tC (.str "14")) (tCons (tC (.str "0")) (tCons (tC (.str "1")) (tCons (tC (.str "2")) (tCons (tC (.str "price")) (tCons (tC (.str "come")) (tCons (tC (.str "deal")) (tCons (tC (.str "None")) tNil)))))))))))) (gName 1))
  (tRet (tOp (rIxL K) (tOp rCat (tVar 1) (tLst (tCons (tC (.str "1_0")) (tCons (tOp Y.rMulS (tC (.str "9")) (tC (.int 70))) (tCons (tC (.str ";")) (tCons (tC (.str "yes;")) (tCons (tC (.str "x")) tNil))))))) (tCall (sp_Ltake K) [] E0 (tCons (tVar 0) (tCons (tC (.int 26)) tNil)))))))
theorem pure_Lodd {K : PySem.W.Frag} {x : V} {H : Hp} {Q : VK} {E : XK} (h : sp_Lodd K [x] H Q E) : t_Lodd K { nx := fun _ H' => Q .non H', rt := Q } [some x, none] H := by
  obtain ⟨x, e, t, b, s, rfl, T, q⟩ := h
  cases e
  unfold t_Lodd
  walk_at "ss"
  refine g_mulS (by decide) (by decide) (by decide) ?_
  walk_at "ss"
  rename_i p1 h1 p2 h2 l2 hl2 p3 h3 l3 hl3 v H9 v0 v1 T9 k9 u hv
  have K9 : Kp [t, b] H H9 := (Same.kp ((same_new h1).trans ((same_new h2).trans ((same_new hl2).trans ((same_new h3).trans (same_new hl3))))) _).trans k9
  obtain ⟨z, rfl, oz⟩ : ∃ z : Str, u = .str z ∧ WdOk z := by
    simp only [List.cons_append, List.nil_append, List.mem_cons, List.not_mem_nil, or_false] at hv
    have ok : ∀ z : Str, (PyData.strOk z && decide (z.length ≤ 70)) = true → WdOk z := fun z h => by rw [Bool.and_eq_true, decide_eq_true_eq] at h; exact h
    rcases hv with e | e | e | e | e | e | e | e | e | e | e | e | e | e | e | e | e | e | e | e | e | e | e | e | e | e <;> exact ⟨_, e, ok _ (by decide +kernel)⟩
  exact q z _ T9 K9 oz
/-! k22: texts of no rule. -/
open PySem PySem.Spec PyProof.Rows L2 TL
theorem wsum_len' : ∀ ws : List Str, ws.length ≤ (ws.map fun w => w.length + 1).sum
  | [] => Nat.le_refl _
  | w :: ws => by
    have := wsum_len' ws
    rw [List.map_cons, List.sum_cons, List.length_cons]
    omega
/-- how long words are, each with a blank -/
def wsum (ws : List Str) : Nat := (ws.map fun w => w.length + 1).sum
theorem wsum_len (ws : List Str) : ws.length ≤ wsum ws := wsum_len' ws
theorem joinL_wsum (S : List Nat) : ∀ ps : List (List Nat), ps ≠ [] → (joinL S ps).length + S.length = (ps.map fun p => p.length + S.length).sum
  | [], h => absurd rfl h
  | [p], _ => by simp [joinL]
  | p :: q :: r, _ => by
    have := joinL_wsum S (q :: r) (by simp)
    show (p ++ (S ++ joinL S (q :: r))).length + _ = _
    rw [List.map_cons, List.sum_cons, List.length_append, List.length_append]
    omega
theorem join_sum {s : Nat} {ws : List Str} (h : ws ≠ []) : (Txt.join ⟨#[s]⟩ ws).length + 1 = wsum ws := by
  rw [len_tl, join_eq, tl_join, tl_one]
  have := joinL_wsum [s] (ws.map tl) (by simpa using h)
  rw [List.map_map] at this
  refine Eq.trans this ?_
  unfold wsum
  congr 1
theorem cut_sum {s : Nat} (hs : s < 256) (z : Str) : wsum (cutS1 s z) = z.length + 1 := by
  rw [← join_sum (s := s) (cut_ne hs z), join_cut hs]
/-- a list of texts, at most so long -/
def WV (xs : List V) (n : Nat) : Prop := ∃ ws : List Str, xs = ws.map V.str ∧ (∀ x ∈ ws, PyData.strOk x = true) ∧ wsum ws ≤ n
theorem wsum_app (a b : List Str) : wsum (a ++ b) = wsum a + wsum b := by
  unfold wsum
  rw [List.map_append, List.sum_append]
theorem wsum_cons (a : Str) (b : List Str) : wsum (a :: b) = a.length + 1 + wsum b := by
  unfold wsum
  rw [List.map_cons, List.sum_cons]
theorem wsum_cut (ws : List Str) (i : Nat) : wsum (ws.take i) + wsum (ws.drop i) = wsum ws := by
  rw [← wsum_app, List.take_append_drop]
theorem wsum_mem {ws : List Str} {x : Str} (h : x ∈ ws) : x.length + 1 ≤ wsum ws := by
  obtain ⟨a, b, rfl⟩ := List.append_of_mem h
  rw [wsum_app, wsum_cons]
  omega
theorem wv_get {xs : List V} {n : Nat} {v : V} (h : WV xs n) (hv : v ∈ xs) : ∃ y, v = .str y ∧ PyData.strOk y = true ∧ y.length + 1 ≤ n := by
  obtain ⟨ws, rfl, o, l⟩ := h
  obtain ⟨y, hy, rfl⟩ := List.mem_map.mp hv
  exact ⟨y, rfl, o y hy, Nat.le_trans (wsum_mem hy) l⟩
theorem wv_ins {xs : List V} {n m : Nat} {y : Str} (i : Nat) (h : WV xs n) (o : PyData.strOk y = true) (l : n + (y.length + 1) ≤ m) : WV (xs.take i ++ [.str y] ++ xs.drop i) m := by
  obtain ⟨ws, rfl, ow, lw⟩ := h
  refine ⟨ws.take i ++ [y] ++ ws.drop i, by simp [List.map_take, List.map_drop], fun x hx => ?_, ?_⟩
  · rcases List.mem_append.mp hx with hx | hx
    · rcases List.mem_append.mp hx with hx | hx
      · exact ow x (List.take_subset _ _ hx)
      · rw [List.mem_singleton.mp hx]; exact o
    · exact ow x (List.drop_subset _ _ hx)
  · have := wsum_cut ws i
    rw [wsum_app, wsum_app, wsum_cons]
    have : wsum [] = 0 := rfl
    omega
theorem wv_erase {xs : List V} {n m : Nat} (i : Nat) (h : WV xs n) (l : n ≤ m) : WV (xs.eraseIdx i) m := by
  obtain ⟨ws, rfl, ow, lw⟩ := h
  refine ⟨ws.eraseIdx i, by rw [List.eraseIdx_eq_take_drop_succ, List.eraseIdx_eq_take_drop_succ, List.map_append, List.map_take, List.map_drop], fun x hx => ow x (List.eraseIdx_subset hx), ?_⟩
  have := wsum_cut ws i
  have e2 := wsum_cut ws (i + 1)
  rw [List.eraseIdx_eq_take_drop_succ, wsum_app]
  by_cases hi : i < ws.length
  · rw [List.drop_eq_getElem_cons hi, wsum_cons] at this
    omega
  · rw [List.drop_eq_nil_of_le (by omega)]
    have : wsum [] = 0 := rfl
    omega
theorem wv_set {xs : List V} {n m : Nat} {y : Str} (i : Nat) (h : WV xs n) (o : PyData.strOk y = true) (l : n + (y.length + 1) ≤ m) : WV (xs.set i (.str y)) m := by
  by_cases hi : i < xs.length
  · have e := wv_ins i (wv_erase i h (Nat.le_refl n)) o l
    have : xs.set i (.str y) = (xs.eraseIdx i).take i ++ [.str y] ++ (xs.eraseIdx i).drop i := by
      rw [List.set_eq_take_append_cons_drop, if_pos hi, List.eraseIdx_eq_take_drop_succ]
      have lt : (xs.take i).length = i := by rw [List.length_take]; omega
      have a1 : (xs.take i ++ xs.drop (i+1)).take i = xs.take i := by rw [List.take_append_of_le_length (Nat.le_of_eq lt.symm), List.take_take, Nat.min_self]
      have a2 : (xs.take i ++ xs.drop (i+1)).drop i = xs.drop (i+1) := by rw [List.drop_append_of_le_length (Nat.le_of_eq lt.symm), List.drop_of_length_le (Nat.le_of_eq lt)]; rfl
      rw [a1, a2]
      simp
    rw [this]
    exact e
  · rw [List.set_eq_of_length_le (by omega)]
    obtain ⟨ws, rfl, ow, lw⟩ := h
    exact ⟨ws, rfl, ow, by omega⟩
theorem wv_app {xs : List V} {n m : Nat} {y : Str} (h : WV xs n) (o : PyData.strOk y = true) (l : n + (y.length + 1) ≤ m) : WV (xs ++ [.str y]) m := by
  have := wv_ins xs.length h o l
  simpa using this
theorem sum_wsum' : ∀ ws : List Str, (ws.map (·.length)).sum + ws.length * 1 = (ws.map fun w => w.length + 1).sum
  | [] => rfl
  | w :: ws => by
    have := sum_wsum' ws
    rw [List.map_cons, List.sum_cons, List.map_cons, List.sum_cons, List.length_cons]
    omega
theorem sum_wsum (ws : List Str) : (ws.map (·.length)).sum + ws.length * (⟨#[32]⟩ : Str).length ≤ wsum ws := Nat.le_of_eq (sum_wsum' ws)
theorem join_le (ws : List Str) : (Txt.join ⟨#[32]⟩ ws).length ≤ wsum ws := by
  by_cases h : ws = []
  · subst h; decide
  · have := join_sum (s := 32) h
    omega
theorem ixN_at {n : Nat} {i : Int} (h0 : 0 ≤ i) (h1 : i < (n : Nat)) : ixN n i = some i.toNat := by
  unfold ixN
  rw [if_pos h0, if_pos h1]
theorem str_S (z : Str) : z = SX.S (tl z) := ext_tl (by simp [SX.S, tl])
theorem sl_to {z : Str} {i : Int} (h : 0 ≤ i) (ok : PyData.strOk z = true) : PyData.strOk (Txt.slice z none (some i)) = true ∧ (Txt.slice z none (some i)).length ≤ z.length := by
  have e : Txt.slice z none (some i) = SX.S ((tl z).take i.toNat) := by
    conv => lhs; rw [str_S z]
    exact SX.slice_to h
  have t : tl (SX.S ((tl z).take i.toNat)) = (tl z).take i.toNat := by simp [SX.S, tl]
  rw [e]
  refine ⟨ok_iff.mpr fun c hc => ?_, ?_⟩
  · rw [t] at hc
    exact ok_iff.mp ok c (List.take_subset _ _ hc)
  · rw [len_tl, len_tl, t, List.length_take]
    omega
theorem sl_from {z : Str} {i : Int} (h : 0 ≤ i) (ok : PyData.strOk z = true) : PyData.strOk (Txt.slice z (some i) none) = true ∧ (Txt.slice z (some i) none).length ≤ z.length := by
  have e : Txt.slice z (some i) none = SX.S ((tl z).drop i.toNat) := by
    conv => lhs; rw [str_S z]
    exact SX.slice_from h
  have t : tl (SX.S ((tl z).drop i.toNat)) = (tl z).drop i.toNat := by simp [SX.S, tl]
  rw [e]
  refine ⟨ok_iff.mpr fun c hc => ?_, ?_⟩
  · rw [t] at hc
    exact ok_iff.mp ok c (List.drop_subset _ _ hc)
  · rw [len_tl, len_tl, t, List.length_drop]
    omega
theorem odd_sum : ∀ {zs : List Str}, (∀ z ∈ zs, WdOk z) → wsum zs ≤ 71 * zs.length
  | [], _ => Nat.le_refl _
  | z :: zs, h => by
    have := odd_sum (zs := zs) fun x hx => h x (by simp [hx])
    have l := (h z (by simp)).2
    rw [wsum_cons, List.length_cons]
    omega
def sp_law (K : PySem.W.Frag) : Sp := Sp1 fun x H Q E => CFR K ∧ ∃ (a : Addr) (ns : List Int), x = .ref a ∧ SqL K H a (ns.map V.int) ∧ ns.length ≤ 63 ∧ ∀ H', Q (.bl true) H'
theorem ruleS_ok {r : RuleD} (hg : r.good) : PyData.strOk (ruleS r) = true := by
  have := join_cut (s := 32) (by decide) (ruleS r)
  rw [← this, join_eq]
  refine ok_join (by decide +kernel) fun x hx => ?_
  rw [words_rule hg] at hx
  exact ruleW_ok hg hx
def t_Lright (K : PySem.W.Frag) : TS :=
  (tSeq (tAsg (tCall (sp_Ldue K) [] E0 (tCons (tVar 0) tNil)) (gName 1))
  (tSeq (tAsg (tCall (sp_rule_by K) [] E0 (tCons (tVar 0) tNil)) (gName 2))
  (tSeq (tIfS (tOr (tTest (tOp rIsN (tVar 1) (tC .non))) (tTest (tOp rIsN (tVar 2) (tC .non))))
  (tRet (tAndV (tOp rIsN (tVar 1) (tC .non)) (tOp rIsN (tVar 2) (tC .non))))
  tNext)
  (tRet (tAndV (tCB (rIsi K) (tCons (tVar 2) (tCons (tC (.ty "tuple")) tNil))) (tAndV (tOp (rEqD K) (tVar 2) (tVar 1)) (tOp rEq (tCB (rIsi K) (tCons (tOp (rIxT K) (tVar 2) (tC (.int 3))) (tCons (tC (.ty "bool")) tNil))) (tCB (rIsi K) (tCons (tOp (rIxT K) (tVar 1) (tC (.int 3))) (tCons (tC (.ty "bool")) tNil))))))))))
theorem pure_Lright {K : PySem.W.Frag} {x : V} {H : Hp} {Q : VK} {E : XK} (h : sp_Lright K [x] H Q E) : t_Lright K { nx := fun _ H' => Q .non H', rt := Q } [some x, none, none] H := by
  obtain ⟨x, e, cf, z, rfl, ok, l, q⟩ := h
  cases e
  unfold t_Lright
  walk_at "ss"
  cases hb : byO z with
  | none =>
    refine g_Ldue ok l (fun _ H1 s1 => ?_) fun r e => by rw [hb] at e; cases e
    walk_at "ss"
    refine g_rule_by cf ok l (fun _ H2 s2 => ?_) fun r e => by rw [hb] at e; cases e
    walk_at "ss"
    refine ite_t (by decide) ?_
    walk_at "ss"
    refine ite_t (by decide) ?_
    walk_at "ss"
    exact q _ (s1.trans s2)
  | some r =>
    refine g_Ldue ok l (fun e => by rw [hb] at e; cases e) fun r' e v1 H1 s1 hv1 => ?_
    obtain rfl : r = r' := Option.some.inj (hb.symm.trans e)
    have g := (by_iff.mp hb).1
    walk_at "ss"
    refine g_rule_by cf ok l (fun e => by rw [hb] at e; cases e) fun r' e v2 H2 s2 hv2 => ?_
    obtain rfl : r = r' := Option.some.inj (hb.symm.trans e)
    have hv1 := hv1.tk (Same.tk s2)
    have s12 := s1.trans s2
    clear s1 s2
    have d1 := hv1.td (H := H2)
    obtain ⟨p1, w1, rfl, h1, t1⟩ := id hv1
    obtain ⟨p2, w2, rfl, h2, t2⟩ := id hv2
    walk_at "ss"
    refine ite_df (by intro z; cases z) ?_
    walk_at "ss"
    refine ite_df (by intro z; cases z) ?_
    walk_at "ss"
    refine g_eqD_same hv2.td.dp hv1.td.dp (sh_rule g) (by decide) ?_
    walk_at "ss"
    rcases fits_kind g.2.2.2 with ⟨e, -⟩ | ⟨b, e, -⟩ | ⟨i, e, i0, i1, -⟩ | ⟨mm, ff, e, -⟩
    · rw [e] at t1 t2
      cases t1
      cases t2
      walk_at "ss"
      exact q _ s12
    · rw [e] at t1 t2
      cases t1
      cases t2
      walk_at "ss"
      exact q _ s12
    · rw [e] at t1 t2
      cases t1
      cases t2
      walk_at "ss"
      exact q _ s12
    · rw [e] at t1 t2
      obtain ⟨q1, rfl, hq1⟩ := td_twoI t1
      obtain ⟨q2, rfl, hq2⟩ := td_twoI t2
      walk_at "ss"
      exact q _ s12
def t_Lbent (K : PySem.W.Frag) : TS :=
  (tSeq (tAsg (tM1 Y.rSplit (tVar 1) (tC (.str " "))) (gName 2))
  (tSeq (tAsg (tCall (sp_Ltake K) [] E0 (tCons (tVar 0) (tCons (tCB (rLen K) (tCons (tVar 2) tNil)) tNil))) (gName 3))
  (tSeq (tAsg (tCall (sp_Ltake K) [] E0 (tCons (tVar 0) (tCons (tCB (rLen K) (tCons (tVar 2) tNil)) tNil))) (gName 4))
  (tSeq (tAsg (tCall (sp_Ltake K) [] E0 (tCons (tVar 0) (tCons (tC (.int 10)) tNil))) (gName 5))
  (tSeq (tIfS (tTest (tOp rEq (tVar 5) (tC (.int 0))))
  (tDrop (tBM K "list" rPopAt (tVar 2) (tCons (tVar 3) tNil)))
  (tIfS (tTest (tOp rEq (tVar 5) (tC (.int 1))))
  (tDrop (tBM K "list" rInsert (tVar 2) (tCons (tVar 3) (tCons (tOp (rIxL K) (tVar 2) (tVar 4)) tNil))))
  (tIfS (tTest (tOp rEq (tVar 5) (tC (.int 2))))
  (tAsg (tTup (tCons (tOp (rIxL K) (tVar 2) (tVar 4)) (tCons (tOp (rIxL K) (tVar 2) (tVar 3)) tNil))) (gTup K 2 (gCons (gSub (tVar 2) (tVar 3) rSetL) (gCons (gSub (tVar 2) (tVar 4) rSetL) gNil))))
  (tIfS (tTest (tOp rEq (tVar 5) (tC (.int 3))))
  (tDrop (tBM K "list" rInsert (tVar 2) (tCons (tVar 3) (tCons (tCall (sp_Lodd K) [] E0 (tCons (tVar 0) tNil)) tNil))))
  (tIfS (tTest (tOp rLt (tVar 5) (tC (.int 6))))
  (tAsg (tCall (sp_Lodd K) [] E0 (tCons (tVar 0) tNil)) (gSub (tVar 2) (tVar 3) rSetL))
  (tIfS (tTest (tOp rEq (tVar 5) (tC (.int 6))))
  (tDrop (tBM K "list" rAppend (tVar 2) (tCons (tCall (sp_Lodd K) [] E0 (tCons (tVar 0) tNil)) tNil)))
  (tIfS (tTest (tOp rEq (tVar 5) (tC (.int 7))))
  (tSeq (tAsg (tCall (sp_Ltake K) [] E0 (tCons (tVar 0) (tCons (tOp rAdd (tCB rLenS (tCons (tVar 1) tNil)) (tC (.int 1))) tNil))) (gName 6))
  (tSeq (tAsg (tOp (rIxL K) (tLst (tCons (tC (.str " ")) (tCons (tC (.str "0")) (tCons (tC (.str "1")) (tCons (tC (.str "~")) (tCons (tC (.str "a")) (tCons (tC (.str "-")) tNil))))))) (tCall (sp_Ltake K) [] E0 (tCons (tVar 0) (tCons (tC (.int 6)) tNil)))) (gName 7))
  (tRet (tOp rAddS (tOp rAddS (tSl C8.rSlX (tVar 1) tNoPart (tPart (tVar 6))) (tVar 7)) (tSl C8.rSlX (tVar 1) (tPart (tOp rAdd (tVar 6) (tCall (sp_Ltake K) [] E0 (tCons (tVar 0) (tCons (tC (.int 2)) tNil))))) tNoPart)))))
  (tIfS (tTest (tOp rEq (tVar 5) (tC (.int 8))))
  (tRet (tSl C8.rSlX (tVar 1) tNoPart (tPart (tCall (sp_Ltake K) [] E0 (tCons (tVar 0) (tCons (tOp rAdd (tCB rLenS (tCons (tVar 1) tNil)) (tC (.int 1))) tNil))))))
  tNext))))))))
  (tRet (tM1 (Y.rJoinT K) (tC (.str " ")) (tVar 2))))))))
theorem pure_Lbent {K : PySem.W.Frag} {x y : V} {H : Hp} {Q : VK} {E : XK} (h : sp_Lbent K [x, y] H Q E) : t_Lbent K { nx := fun _ H' => Q .non H', rt := Q } [some x, some y, none, none, none, none, none, none] H := by
  obtain ⟨x, y, e, t, b, s, z, rfl, rfl, ok, l, T, q⟩ := h
  cases e
  unfold t_Lbent
  walk_at "ss"
  refine g_m1 ?_
  walk_at "ss"
  refine g_isS ?_
  walk_at "ss"
  rw [sp_one]
  refine g_split (by omega) fun p H1 s1 f1 h1 => ?_
  have okw : ∀ x ∈ cutS1 32 z, PyData.strOk x = true := fun x hx => ok_cut (by decide) ok hx
  have wl := cut_sum (s := 32) (by decide) z
  have ne := cut_ne (s := 32) (by decide) z
  have T1 := tape_same s1 T
  generalize cutS1 32 z = ws at h1 okw wl ne
  walk_at "ss"
  rw [List.length_map]
  have nw : ws.length ≤ wsum ws := wsum_len ws
  have n0 : 0 < ws.length := List.length_pos_iff.mpr ne
  have nl : ((ws.length : Nat) : Int) < 2 ^ 250 := Int.lt_trans (b := 1000) (by omega) (by decide)
  refine g_take T1 (by omega) nl fun i H2 i0 i1 T2 k2 => ?_
  have h2 := k2 _ _ h1 (ni_tape f1 T)
  have T2' : True → Tape H2 t b s := fun _ => T2
  clear T2
  walk_at "ss"
  rw [List.length_map]
  refine g_take (T2' trivial) (by omega) nl fun j H3 j0 j1 T3 k3 => ?_
  have h3 := k3 _ _ h2 (ni_tape f1 T)
  have K3 : Kp [t, b] H H3 := ((Same.kp s1 _).trans k2).trans k3
  clear k2 k3 nl T2' h1 h2 T1
  have nf := ni_tape f1 T
  have W3 : WV (ws.map V.str) 61 := ⟨ws, rfl, okw, by omega⟩
  have lV : (ws.map V.str).length = ws.length := List.length_map ..
  generalize ws.map V.str = xs at h3 W3 lV
  have TH : True → Tape H t b s := fun _ => T
  clear T
  walk_at "ss"
  rename_i w H4 w0 w1 T4 k4
  have h4 := k4 _ _ h3 nf
  have K4 := K3.trans k4
  have fp4 : Fr H p := f1
  clear K3 k4 T3 h3
  rw [← lV] at i1 j1
  dsimp only [List.set]
  refine jn (P := fun σ H' => ∃ v6 v7 ys, σ = [some (.ref t), some (.str z), some (.ref p), some (.int i), some (.int j), some (.int w), v6, v7] ∧ Tape H' t b s ∧ Kp [t, b] H H' ∧ H' p = some (.lst ys) ∧ WV ys 300) ?_ fun N hN => ?_
  · rintro σ H5 ⟨v6, v7, ys, rfl, T5, K5, h5, us, rfl, uo, ul⟩
    walk_at "ss"
    refine g_m1 ?_
    walk_at "ss"
    refine g_isS ?_
    walk_at "ss"
    have ln := join_le us
    refine g_join (SqL.of h5) (Nat.le_trans (sum_wsum us) (by omega)) ?_
    exact q _ _ T5 K5 (ok_joinT (by decide +kernel) uo) (by omega)
  have put : ∀ {ys G}, Tape G t b s → Kp [t, b] H G → WV ys 300 → N [some (.ref t), some (.str z), some (.ref p), some (.int i), some (.int j), some (.int w), none, none] (upd G p (.lst ys)) := fun T K hw =>
    hN _ _ ⟨_, _, _, rfl, tape_own fp4 (TH trivial) T, Kp.own K fp4, upd_same, hw⟩
  obtain ⟨u1, hu1⟩ : ∃ u, xs[i.toNat]? = some u := ⟨_, List.getElem?_eq_getElem (show i.toNat < xs.length by omega)⟩
  have lx : xs.length ≤ 61 := by omega
  walk_at "ss"
  refine ite_d (fun e0 => ?_) fun e0 => ?_
  · walk_at "ss"
    refine g_popAt h4 (by omega) (by omega) (seq_at i0 (by omega)) hu1 ?_
    exact put T4 K4 (wv_erase _ W3 (by decide))
  walk_at "ss"
  refine ite_d (fun e1 => ?_) fun e1 => ?_
  · walk_at "ss"
    rename_i u hu
    obtain ⟨y, rfl, oy, ly⟩ := wv_get W3 hu
    refine g_insertV h4 (by rw [sizeLine_eq]; omega) i0 (by omega) ?_
    exact put T4 K4 (wv_ins _ W3 oy (by omega))
  walk_at "ss"
  refine ite_d (fun e2 => ?_) fun e2 => ?_
  · walk_at "ss"
    rename_i u hu u' hu' p5 hp5
    obtain ⟨y, rfl, oy, ly⟩ := wv_get W3 hu
    obtain ⟨y', rfl, oy', ly'⟩ := wv_get W3 hu'
    have h5 : (upd H4 p5 (.tup [.str y, .str y'])) p = some (.lst xs) := at_new hp5 h4
    have T5 := tape_new (o := .tup [.str y, .str y']) hp5 T4
    have K5 := Kp.new (o := .tup [.str y, .str y']) K4 hp5
    generalize (upd H4 p5 (.tup [.str y, .str y'])) = G at h5 T5 K5
    clear T4 h4
    refine g_setL h5 (ixN_at i0 i1) ?_
    have T6 : Tape (upd G p (.lst (xs.set i.toNat (.str y)))) t b s := tape_own fp4 (TH trivial) T5
    have K6 : Kp [t, b] H (upd G p (.lst (xs.set i.toNat (.str y)))) := Kp.own K5 fp4
    have h6 : (upd G p (.lst (xs.set i.toNat (.str y)))) p = some (.lst (xs.set i.toNat (.str y))) := upd_same
    generalize upd G p (.lst (xs.set i.toNat (.str y))) = G6 at T6 K6 h6
    walk_at "ss"
    refine g_setL h6 (ixN_at j0 (by rw [List.length_set]; exact j1)) ?_
    walk_at "ss"
    exact put T6 K6 (wv_set _ (wv_set (m := 122) _ W3 oy (by omega)) oy' (by omega))
  walk_at "ss"
  refine ite_d (fun e3 => ?_) fun e3 => ?_
  · walk_at "ss"
    refine g_Lodd T4 fun y H5 T5 k5 oy => ?_
    have h5 := k5 _ _ h4 nf
    have ly := oy.2
    walk_at "ss"
    refine g_insertV h5 (by rw [sizeLine_eq]; omega) i0 (by omega) ?_
    exact put T5 (K4.trans k5) (wv_ins _ W3 oy.1 (by omega))
  walk_at "ss"
  refine ite_d (fun e4 => ?_) fun e4 => ?_
  · walk_at "ss"
    refine g_Lodd T4 fun y H5 T5 k5 oy => ?_
    have h5 := k5 _ _ h4 nf
    have ly := oy.2
    walk_at "ss"
    refine g_setL h5 (ixN_at i0 i1) ?_
    exact put T5 (K4.trans k5) (wv_set _ W3 oy.1 (by omega))
  walk_at "ss"
  refine ite_d (fun e5 => ?_) fun e5 => ?_
  · walk_at "ss"
    refine g_Lodd T4 fun y H5 T5 k5 oy => ?_
    have h5 := k5 _ _ h4 nf
    have ly := oy.2
    walk_at "ss"
    exact put T5 (K4.trans k5) (wv_app W3 oy.1 (by omega))
  walk_at "ss"
  have zl : 0 ≤ (z.length : Int) + 1 := by omega
  refine ite_d (fun e6 => ?_) fun e6 => ?_
  · walk_at "ss"
    refine ⟨z, rfl, sz_of (by omega), ?_⟩
    walk_at "ss"
    rename_i c H5 c0 c1 T5 k5 p5 hp5 c2 H6 c20 c21 T6 k6 u hu
    obtain ⟨y, rfl, oy, ly⟩ : ∃ y : Str, u = .str y ∧ PyData.strOk y = true ∧ y.length ≤ 1 := by
      simp only [List.mem_cons, List.not_mem_nil, or_false] at hu
      have ok : ∀ z : Str, (PyData.strOk z && decide (z.length ≤ 1)) = true → PyData.strOk z = true ∧ z.length ≤ 1 := fun z h => by rw [Bool.and_eq_true, decide_eq_true_eq] at h; exact h
      rcases hu with e | e | e | e | e | e <;> exact ⟨_, e, ok _ (by decide +kernel)⟩
    have K6 := (K4.trans (Kp.new k5 hp5)).trans k6
    have sl := sl_to c0 ok
    refine ⟨z, rfl, sz_of (by omega), ?_⟩
    walk_at "ss"
    refine ⟨_, _, rfl, rfl, sz_of (by omega), ?_⟩
    walk_at "ss"
    rename_i c3 H7 c30 c31 T7 k7
    have sf := sl_from (i := c + c3) (by omega) ok
    refine ⟨z, rfl, sz_of (by omega), ?_⟩
    walk_at "ss"
    have la := len_app (Txt.slice z none (some c)) y
    refine ⟨_, _, rfl, rfl, sz_of (by omega), ?_⟩
    refine q _ _ T7 (K6.trans k7) (ok_appT (ok_appT sl.1 oy) sf.1) ?_
    have lb := len_app (Txt.slice z none (some c) ++ y) (Txt.slice z (some (c + c3)) none)
    omega
  walk_at "ss"
  refine ite_d (fun e7 => ?_) fun e7 => ?_
  · walk_at "ss"
    refine ⟨z, rfl, sz_of (by omega), ?_⟩
    have T4' : True → Tape H4 t b s := fun _ => T4
    clear T4
    walk_at "ss"
    refine g_take (T4' trivial) (by omega) (Int.lt_trans (b := 1000) (by omega) (by decide)) fun c H5 c0 c1 T5 k5 => ?_
    walk_at "ss"
    have sl := sl_to c0 ok
    refine ⟨z, rfl, sz_of (by omega), ?_⟩
    walk_at "ss"
    exact q _ _ T5 (K4.trans k5) sl.1 (by omega)
  walk_at "ss"
  exact hN _ _ ⟨_, _, _, rfl, T4, K4, h4, W3.imp fun _ h => ⟨h.1, h.2.1, Nat.le_trans h.2.2 (by decide)⟩⟩
def t_law (K : PySem.W.Frag) : TS :=
  (tSeq (tFor (iList K (tOp rCat (tLst (tCons (tC (.int 0)) tNil)) (tSl (rSlL K) (tVar 0) tNoPart (tPart (tC (.int 60)))))) (gName 1)
  (tSeq (tAsg (tCall (sp_Lbegin K) [] E0 (tCons (tVar 1) tNil)) (gName 2))
  (tSeq (tAsg (tCall (sp_rule_text K) [] E0 (tCons (tCall (sp_Lrule K) [] E0 (tCons (tVar 2) (tCons (tOp (rIxL K) (tLst (tCons (tC (.int 0)) (tCons (tC (.int 40)) (tCons (tC (.int 999990)) (tCons (tOp rPow (tC (.int 10)) (tC (.int 6))) tNil))))) (tCall (sp_Ltake K) [] E0 (tCons (tVar 2) (tCons (tC (.int 4)) tNil)))) tNil))) tNil)) (gName 3))
  (tSeq (tAsg (tCall (sp_Ltake K) [] E0 (tCons (tVar 2) (tCons (tC (.int 12)) tNil))) (gName 4))
  (tSeq (tIfS (tTest (tOp rEq (tVar 4) (tC (.int 1))))
  (tAsg (tOp rAddS (tOp rAddS (tVar 3) (tOp (rIxL K) (tLst (tCons (tC (.str " ")) (tCons (tC (.str "")) tNil))) (tCall (sp_Ltake K) [] E0 (tCons (tVar 2) (tCons (tC (.int 2)) tNil))))) (tCall (sp_rule_text K) [] E0 (tCons (tCall (sp_Lrule K) [] E0 (tCons (tVar 2) (tCons (tC (.int 7)) tNil))) tNil))) (gName 3))
  (tIfS (tTest (tOp rEq (tVar 4) (tC (.int 2))))
  (tAsg (tM1 (Y.rJoinT K) (tC (.str " ")) (tLc (iRng1 (tCons (tCall (sp_Ltake K) [] E0 (tCons (tVar 2) (tCons (tC (.int 6)) tNil))) tNil)) (gName 5) tYes (tCall (sp_Lodd K) [] E0 (tCons (tVar 2) tNil)) [5])) (gName 3))
  (tAsg (tCall (sp_Lbent K) [] E0 (tCons (tVar 2) (tCons (tVar 3) tNil))) (gName 3))))
  (tIfS (tOr (tNot (tB (tCall (sp_Lright K) [] E0 (tCons (tVar 3) tNil)))) (tNot (tB (tCall (sp_Lright K) [] E0 (tCons (tVar 3) tNil)))))
  (tRet (tC (.bl false)))
  tNext))))))
  (tRet (tAndV (tCall (sp_Lright K) [] E0 (tCons (tC (.str "")) tNil)) (tAndV (tCall (sp_Lright K) [] E0 (tCons (tC (.str "price 0 0 0")) tNil)) (tCall (sp_Lright K) [] E0 (tCons (tC (.str "deal 0 1000000 14 13")) tNil))))))
theorem pure_law {K : PySem.W.Frag} {x : V} {H : Hp} {Q : VK} {E : XK} (h : sp_law K [x] H Q E) : t_law K { nx := fun _ H' => Q .non H', rt := Q } ([some x] ++ List.replicate 5 none) H := by
  obtain ⟨x, e, cf, a, ns, rfl, hS, hl, q⟩ := h
  cases e
  dsimp only [List.replicate, List.append, List.cons_append, List.nil_append]
  unfold t_law
  walk_at "ss"
  rename_i q1 hq1 q2 hq2 l hl2
  have e6 : (V.int 0 :: (ns.map V.int).take (Int.toNat 60)) = (0 :: ns.take 60).map V.int := by
    rw [List.map_cons, List.map_take]
    rfl
  have hlG : (upd (upd (upd H q1 (.lst [.int 0])) q2 (.lst ((ns.map V.int).take (Int.toNat 60)))) l (.lst ([.int 0] ++ (ns.map V.int).take (Int.toNat 60)))) l = some (.lst ((0 :: ns.take 60).map V.int)) := by
    rw [upd_same, List.singleton_append, e6]
  generalize (upd (upd (upd H q1 (.lst [.int 0])) q2 (.lst ((ns.map V.int).take (Int.toNat 60)))) l (.lst ([.int 0] ++ (ns.map V.int).take (Int.toNat 60)))) = G at hlG ⊢
  clear hq1 hq2 hl2 e6
  refine for_list (K := K) (a := l) (xs := (0 :: ns.take 60).map V.int) (fun i σ H' => ∃ v1 v2 v3 v4 v5, σ = [some (.ref a), v1, v2, v3, v4, v5] ∧ Same G H') ⟨_, _, _, _, _, rfl, Same.refl _⟩ (fun i σ H' _ h => by obtain ⟨_, _, _, _, _, _, h⟩ := h; exact SqL.of (h _ _ hlG)) ?_ ?_
  · rintro i x σ H0 hi ⟨v1, v2, v3, v4, v5, rfl, sm⟩
    obtain ⟨cell, rfl⟩ : ∃ c : Int, x = .int c := by
      obtain ⟨c, -, e⟩ := List.mem_map.mp (List.mem_of_getElem? hi)
      exact ⟨c, e.symm⟩
    walk_at "ss"
    rename_i t H1 s1 ft T1 p1 hp1 d1 H2 d10 d11 T2 k2 dv hv rv r H3 T3 k3 hr hg
    have K3 : Kp [t, t] H1 H3 := kp_tr k3 (kp_tr k2 (Same.kp (same_new hp1) _))
    refine g_rule_text (r := r) hr hg fun H4 s4 => ?_
    have K4 := K3.trans (Same.kp s4 _)
    have T4 := tape_same s4 T3
    have ok1 := ruleS_ok hg
    have ln := rule_len hg
    generalize ruleS r = z at ok1 ln
    clear T2 T3 k2 k3 hp1 hr hv T1 K3 s4 hlG hS
    walk_at "ss"
    rename_i w H5 w0 w1 T5 k5
    have K5 := K4.trans k5
    clear T4 k5 K4
    dsimp only [List.set]
    refine jn (P := fun σ H' => ∃ z v5, σ = [some (.ref a), some (.int cell), some (.ref t), some (.str z), some (.int w), v5] ∧ Tape H' t t t ∧ Kp [t, t] H1 H' ∧ PyData.strOk z = true ∧ z.length ≤ 640) ?_ fun N hN => ?_
    · rintro σ H6 ⟨z, v5, rfl, T6, K6, ok, l6⟩
      walk_at "ss"
      refine g_Lright cf ok l6 fun H7 s7 => ?_
      walk_at "ss"
      refine g_Lright cf ok l6 fun H8 s8 => ?_
      walk_at "ss"
      exact ⟨_, _, _, _, _, rfl, sm.trans (same_kp s1 (K6.trans (Same.kp (s7.trans s8) _)) ft ft)⟩
    walk_at "ss"
    refine ite_d (fun e0 => ?_) fun e0 => ?_
    · walk_at "ss"
      rename_i p6 hp6 c H6 c0 c1 T6 k6 u hu
      obtain ⟨y, rfl, oy, ly⟩ : ∃ y : Str, u = .str y ∧ PyData.strOk y = true ∧ y.length ≤ 1 := by
        simp only [List.mem_cons, List.not_mem_nil, or_false] at hu
        have ok : ∀ z : Str, (PyData.strOk z && decide (z.length ≤ 1)) = true → PyData.strOk z = true ∧ z.length ≤ 1 := fun z h => by rw [Bool.and_eq_true, decide_eq_true_eq] at h; exact h
        rcases hu with e | e <;> exact ⟨_, e, ok _ (by decide +kernel)⟩
      have K6 := (K5.trans (Same.kp (same_new hp6) _)).trans k6
      clear k6 hp6 T5 K5
      have la := len_app z y
      refine ⟨_, _, rfl, rfl, sz_of (by omega), ?_⟩
      walk_at "ss"
      rename_i rv' r' H7 T7 k7 hr7 hg7
      have K7 := K6.trans k7
      have oz := ruleS_ok hg7
      have lz := rule_len hg7
      refine g_rule_text (r := r') hr7 hg7 fun H8 s8 => ?_
      generalize ruleS r' = y' at oz lz
      refine ⟨_, _, rfl, rfl, sz_of (by omega), ?_⟩
      walk_at "ss"
      refine hN _ _ ⟨_, _, rfl, tape_same s8 T7, K7.trans (Same.kp s8 _), ok_appT (ok_appT ok1 oy) oz, ?_⟩
      have lb := len_app (z ++ y) y'
      omega
    walk_at "ss"
    refine ite_d (fun e1 => ?_) fun e1 => ?_
    · walk_at "ss"
      refine g_m1 ?_
      walk_at "ss"
      refine g_isS ?_
      walk_at "ss"
      rename_i c H6 c0 c1 T6 k6
      have K6 := K5.trans k6
      clear k6 T5 K5
      refine lc_dr T6 (fun _ v (z : Str) => v = .str z) (fun _ _ _ _ _ h => h) WdOk (by omega) ?_ ?_
      · intro D i H7 N' acc hD hi T7 hacc nD hN'
        walk_at "ss"
        refine g_Lodd T7 fun y H8 T8 k8 oy => ?_
        walk_at "ss"
        exact hN' _ _ _ rfl oy T8 k8
      · intro D H7 ys zs hD T7 k7 h7 hp hlen hg
        obtain rfl : ys = zs.map V.str := by
          clear h7 hlen hg
          induction hp with
          | nil => rfl
          | cons a _ ih => rw [a, ih]; rfl
        have ws := odd_sum hg
        have sw := sum_wsum zs
        have jl := join_le zs
        walk_at "ss"
        rw [sp_one]
        refine g_join (SqL.of h7) (by omega) ?_
        walk_at "ss"
        exact hN _ _ ⟨_, _, rfl, T7, K6.trans k7, ok_joinT (by decide +kernel) fun x hx => (hg x hx).1, by omega⟩
    walk_at "ss"
    refine g_Lbent ok1 ln T5 fun y H6 T6 k6 oy ly => ?_
    walk_at "ss"
    exact hN _ _ ⟨_, _, rfl, T6, K5.trans k6, oy, by omega⟩
  · rintro σ H' ⟨v1, v2, v3, v4, v5, rfl, sm⟩
    walk_at "ss"
    refine g_Lright cf (by decide +kernel) (by decide) fun H1 s1 => ?_
    walk_at "ss"
    refine g_Lright cf (by decide +kernel) (by decide) fun H2 s2 => ?_
    walk_at "ss"
    refine g_Lright cf (by decide +kernel) (by decide) fun H3 s3 => ?_
    exact q _
open PySem PySem.Spec PyProof.Rows L2 YHd
/-- what the module's names hold -/
structure Txt (K : PySem.W.Frag) (mg : Str → Option Value) : Prop where
  b_all : mg "all" = none
  b_bool : mg "bool" = none
  b_int : mg "int" = none
  b_isinstance : mg "isinstance" = none
  b_len : mg "len" = none
  b_max : mg "max" = none
  b_min : mg "min" = none
  b_range : mg "range" = none
  b_str : mg "str" = none
  b_tuple : mg "tuple" = none
  c_FIGURES : ∃ u, mg "FIGURES" = some u ∧ RelV (.str "0123456789") u
  c_LAST_DAY : ∃ u, mg "LAST_DAY" = some u ∧ RelV (.int 1000000) u
  c_MOST_COINS : ∃ u, mg "MOST_COINS" = some u ∧ RelV (.int 1000000000000) u
  c_MOST_NIGHTS : ∃ u, mg "MOST_NIGHTS" = some u ∧ RelV (.int 14) u
  c_WORDS : ∃ u, mg "WORDS" = some u ∧ RelV (.ref (He.ga K "WORDS")) u
  g_Come : mg "Come" = some (.ref (He.ga K "Come"))
  g_Deal : mg "Deal" = some (.ref (He.ga K "Deal"))
  g_Fee : mg "Fee" = some (.ref (He.ga K "Fee"))
  g_Go : mg "Go" = some (.ref (He.ga K "Go"))
  g_Least : mg "Least" = some (.ref (He.ga K "Least"))
  g_Most : mg "Most" = some (.ref (He.ga K "Most"))
  g_Price : mg "Price" = some (.ref (He.ga K "Price"))
section
variable {P : Program} {w : World} {K : PySem.W.Frag} {mg : Str → Option Value} {base : Heap}
theorem sc_Lbegin : FnScope ["_law_cell"] ["_law_cell"] (defScope s_Lbegin) := ⟨rfl, rfl, rfl, by decide +kernel, rfl, by decide +kernel, by decide +kernel⟩
theorem sc_worth_text : FnScope ["word", "worth"] ["word", "worth"] (defScope s_worth_text) := ⟨rfl, rfl, rfl, by decide +kernel, rfl, by decide +kernel, by decide +kernel⟩
theorem sc_rule_text : FnScope ["rule", "word", "first", "last", "worth"] ["rule"] (defScope s_rule_text) := ⟨rfl, rfl, rfl, by decide +kernel, rfl, by decide +kernel, by decide +kernel⟩
theorem sc_Ltake : FnScope ["_law_row", "_law_base", "_law_found", "_law_number_here"] ["_law_row", "_law_base"] (defScope s_Ltake) := ⟨rfl, rfl, rfl, by decide +kernel, rfl, by decide +kernel, by decide +kernel⟩
theorem sc_Lcoins : FnScope ["_law_row", "_law_few", "_law_many", "_law_great"] ["_law_row"] (defScope s_Lcoins) := ⟨rfl, rfl, rfl, by decide +kernel, rfl, by decide +kernel, by decide +kernel⟩
theorem sc_Lworth : FnScope ["_law_row", "_law_word", "_law_many", "_law_free", "_law_coins_here"] ["_law_row", "_law_word"] (defScope s_Lworth) := ⟨rfl, rfl, rfl, by decide +kernel, rfl, by decide +kernel, by decide +kernel⟩
theorem sc_Lrule : FnScope ["_law_row", "_law_day", "_law_word", "_law_ahead", "_law_first", "_law_last"] ["_law_row", "_law_day"] (defScope s_Lrule) := ⟨rfl, rfl, rfl, by decide +kernel, rfl, by decide +kernel, by decide +kernel⟩
theorem sc_Lodd : FnScope ["_law_row", "_law_some"] ["_law_row"] (defScope s_Lodd) := ⟨rfl, rfl, rfl, by decide +kernel, rfl, by decide +kernel, by decide +kernel⟩
theorem sc_Lbent : FnScope ["_law_row", "_law_text", "_law_words", "_law_at", "_law_to", "_law_way", "_law_cut", "_law_sign"] ["_law_row", "_law_text"] (defScope s_Lbent) := ⟨rfl, rfl, rfl, by decide +kernel, rfl, by decide +kernel, by decide +kernel⟩
theorem sc_Lnumber : FnScope ["_law_word", "_law_sign"] ["_law_word"] (defScope s_Lnumber) := ⟨rfl, rfl, rfl, by decide +kernel, rfl, by decide +kernel, by decide +kernel⟩
theorem sc_Lpair : FnScope ["_law_words", "_law_many", "_law_free", "_law_word"] ["_law_words"] (defScope s_Lpair) := ⟨rfl, rfl, rfl, by decide +kernel, rfl, by decide +kernel, by decide +kernel⟩
theorem sc_Lworth_by : FnScope ["_law_word", "_law_words", "_law_number_here"] ["_law_word", "_law_words"] (defScope s_Lworth_by) := ⟨rfl, rfl, rfl, by decide +kernel, rfl, by decide +kernel, by decide +kernel⟩
theorem sc_Ldue : FnScope ["_law_text", "_law_words", "_law_first", "_law_last", "_law_worth_here", "_law_word"] ["_law_text"] (defScope s_Ldue) := ⟨rfl, rfl, rfl, by decide +kernel, rfl, by decide +kernel, by decide +kernel⟩
theorem sc_number_by : FnScope ["word", "sign"] ["word"] (defScope s_number_by) := ⟨rfl, rfl, rfl, by decide +kernel, rfl, by decide +kernel, by decide +kernel⟩
theorem sc_worths_by : FnScope ["word", "words", "numbers", "one", "text", "worth"] ["word", "words"] (defScope s_worths_by) := ⟨rfl, rfl, rfl, by decide +kernel, rfl, by decide +kernel, by decide +kernel⟩
theorem sc_is_whole : FnScope ["thing"] ["thing"] (defScope s_is_whole) := ⟨rfl, rfl, rfl, by decide +kernel, rfl, by decide +kernel, by decide +kernel⟩
theorem sc_is_day : FnScope ["thing"] ["thing"] (defScope s_is_day) := ⟨rfl, rfl, rfl, by decide +kernel, rfl, by decide +kernel, by decide +kernel⟩
theorem sc_is_two_days : FnScope ["thing"] ["thing"] (defScope s_is_two_days) := ⟨rfl, rfl, rfl, by decide +kernel, rfl, by decide +kernel, by decide +kernel⟩
theorem sc_is_stretch : FnScope ["thing"] ["thing"] (defScope s_is_stretch) := ⟨rfl, rfl, rfl, by decide +kernel, rfl, by decide +kernel, by decide +kernel⟩
theorem sc_Rule_init : FnScope ["self", "first", "last", "worth"] ["self", "first", "last", "worth"] (defScope s_Rule_init) := ⟨rfl, rfl, rfl, by decide +kernel, rfl, by decide +kernel, by decide +kernel⟩
theorem sc_made : FnScope ["word", "first", "last", "worth"] ["word", "first", "last", "worth"] (defScope s_made) := ⟨rfl, rfl, rfl, by decide +kernel, rfl, by decide +kernel, by decide +kernel⟩
theorem sc_is_coins : FnScope ["thing"] ["thing"] (defScope s_is_coins) := ⟨rfl, rfl, rfl, by decide +kernel, rfl, by decide +kernel, by decide +kernel⟩
theorem sc_Price_fits : FnScope ["self"] ["self"] (defScope s_Price_fits) := ⟨rfl, rfl, rfl, by decide +kernel, rfl, by decide +kernel, by decide +kernel⟩
theorem sc_Come_fits : FnScope ["self"] ["self"] (defScope s_Come_fits) := ⟨rfl, rfl, rfl, by decide +kernel, rfl, by decide +kernel, by decide +kernel⟩
theorem sc_Go_fits : FnScope ["self"] ["self"] (defScope s_Go_fits) := ⟨rfl, rfl, rfl, by decide +kernel, rfl, by decide +kernel, by decide +kernel⟩
theorem sc_is_nights : FnScope ["thing"] ["thing"] (defScope s_is_nights) := ⟨rfl, rfl, rfl, by decide +kernel, rfl, by decide +kernel, by decide +kernel⟩
theorem sc_Least_fits : FnScope ["self"] ["self"] (defScope s_Least_fits) := ⟨rfl, rfl, rfl, by decide +kernel, rfl, by decide +kernel, by decide +kernel⟩
theorem sc_Most_fits : FnScope ["self"] ["self"] (defScope s_Most_fits) := ⟨rfl, rfl, rfl, by decide +kernel, rfl, by decide +kernel, by decide +kernel⟩
theorem sc_Deal_fits : FnScope ["self", "many", "free"] ["self"] (defScope s_Deal_fits) := ⟨rfl, rfl, rfl, by decide +kernel, rfl, by decide +kernel, by decide +kernel⟩
theorem sc_Fee_fits : FnScope ["self"] ["self"] (defScope s_Fee_fits) := ⟨rfl, rfl, rfl, by decide +kernel, rfl, by decide +kernel, by decide +kernel⟩
theorem sc_rule_of : FnScope ["thing", "rule"] ["thing"] (defScope s_rule_of) := ⟨rfl, rfl, rfl, by decide +kernel, rfl, by decide +kernel, by decide +kernel⟩
theorem sc_Price_word : FnScope ["self"] ["self"] (defScope s_Price_word) := ⟨rfl, rfl, rfl, by decide +kernel, rfl, by decide +kernel, by decide +kernel⟩
theorem sc_Come_word : FnScope ["self"] ["self"] (defScope s_Come_word) := ⟨rfl, rfl, rfl, by decide +kernel, rfl, by decide +kernel, by decide +kernel⟩
theorem sc_Go_word : FnScope ["self"] ["self"] (defScope s_Go_word) := ⟨rfl, rfl, rfl, by decide +kernel, rfl, by decide +kernel, by decide +kernel⟩
theorem sc_Least_word : FnScope ["self"] ["self"] (defScope s_Least_word) := ⟨rfl, rfl, rfl, by decide +kernel, rfl, by decide +kernel, by decide +kernel⟩
theorem sc_Most_word : FnScope ["self"] ["self"] (defScope s_Most_word) := ⟨rfl, rfl, rfl, by decide +kernel, rfl, by decide +kernel, by decide +kernel⟩
theorem sc_Deal_word : FnScope ["self"] ["self"] (defScope s_Deal_word) := ⟨rfl, rfl, rfl, by decide +kernel, rfl, by decide +kernel, by decide +kernel⟩
theorem sc_Fee_word : FnScope ["self"] ["self"] (defScope s_Fee_word) := ⟨rfl, rfl, rfl, by decide +kernel, rfl, by decide +kernel, by decide +kernel⟩
theorem sc_Rule_told : FnScope ["self"] ["self"] (defScope s_Rule_told) := ⟨rfl, rfl, rfl, by decide +kernel, rfl, by decide +kernel, by decide +kernel⟩
theorem sc_rule_by : FnScope ["text", "words", "first", "last", "worth", "rule"] ["text"] (defScope s_rule_by) := ⟨rfl, rfl, rfl, by decide +kernel, rfl, by decide +kernel, by decide +kernel⟩
theorem sc_Lright : FnScope ["_law_text", "_law_due_here", "_law_found"] ["_law_text"] (defScope s_Lright) := ⟨rfl, rfl, rfl, by decide +kernel, rfl, by decide +kernel, by decide +kernel⟩
theorem sc_law : FnScope ["_law_script", "_law_cell", "_law_row", "_law_text", "_law_way", "_law_k"] ["_law_script"] (defScope s_law) := ⟨rfl, rfl, rfl, by decide +kernel, rfl, by decide +kernel, by decide +kernel⟩
theorem ok_Lbegin (T : Txt K mg) {f : Addr} {fd : FuncData} (F : FunD K "_law_begin" "_law_begin" (defArgs s_Lbegin) (defBody s_Lbegin) (defScope s_Lbegin) [] [] f fd)  : FnG P w K mg base CX0 1 f fd ["_law_cell"] (sp_Lbegin K) := by
  refine g_def F sc_Lbegin (fun vs H Q E h => ?_) (fun cdv A outer s H vs Q E hr h => ⟨t_Lbegin K, PSs.nox ?_, ?_⟩)
  · obtain ⟨_, rfl, _⟩ := h
    rfl
  · exact (pss_cons (ps_if (pt_cmpR op_ge (pv 0) (pe_op op_pow pe_int pe_int) (nomark _)) (pss_one (ps_ret (pe_lst (pa_cons (pe_op op_sub (pv 0) (pe_op op_pow pe_int pe_int)) (pa_cons pe_int pa_nil))))) pss_nil)
  (pss_one (ps_ret (pe_lst (pa_cons pe_int (pa_cons (pe_op op_add (pe_op op_mod (pv 0) pe_int) pe_int) pa_nil))))))
  · obtain ⟨_, rfl, _⟩ := id h
    exact pure_Lbegin h
theorem ok_worth_text (T : Txt K mg) {f : Addr} {fd : FuncData} (F : FunD K "worth_text" "worth_text" (defArgs s_worth_text) (defBody s_worth_text) (defScope s_worth_text) [] [] f fd)  : FnG P w K mg base CX0 1 f fd ["word", "worth"] (sp_worth_text K) := by
  refine g_def F sc_worth_text (fun vs H Q E h => ?_) (fun cdv A outer s H vs Q E hr h => ⟨t_worth_text K, PSs.nox ?_, ?_⟩)
  · obtain ⟨_, _, rfl, _⟩ := h
    rfl
  · exact (pss_cons (ps_if (pt_cmpR op_isN (pv 1) pe_non (nomark _)) (pss_one (ps_ret pe_str)) pss_nil)
  (pss_cons (ps_if (PW.pt (pw_or (pt_cmpR op_eq (pv 0) pe_str (nomark _)) (pw_or1 (pt_cmpR op_eq (pv 0) pe_str (nomark _))))) (pss_one (ps_ret (pe_ix ix_list (pe_lst (pa_cons pe_str (pa_cons pe_str pa_nil))) (pe_callTy call_int1 (by rfl) T.b_int (by decide +kernel) (pa_cons (pv 1) pa_nil)) (fun _ _ => rfl)))) pss_nil)
  (pss_cons (ps_if (pt_cmpR op_eq (pv 0) pe_str (nomark _)) (pss_one (ps_ret (pe_joined (PJ.cons (pe_fmt (pe_ix ix_seq (pv 1) pe_int (fun _ _ => rfl))) (PJ.cons pe_str (PJ.cons (pe_fmt (pe_ix ix_seq (pv 1) pe_int (fun _ _ => rfl))) PJ.nil)))))) pss_nil)
  (pss_one (ps_ret (pe_callTy Y.cr_strI (by rfl) T.b_str (by decide +kernel) (pa_cons (pv 1) pa_nil)))))))
  · obtain ⟨_, _, rfl, _⟩ := id h
    exact pure_worth_text h
theorem ok_rule_text (T : Txt K mg) {f : Addr} {fd : FuncData} (F : FunD K "rule_text" "rule_text" (defArgs s_rule_text) (defBody s_rule_text) (defScope s_rule_text) [] [] f fd) (c_worth_text : Y.Cal P w K mg base CX0 1 "worth_text" (sp_worth_text K) []) : FnG P w K mg base CX0 2 f fd ["rule"] (sp_rule_text K) := by
  refine g_def F sc_rule_text (fun vs H Q E h => ?_) (fun cdv A outer s H vs Q E hr h => ⟨t_rule_text K, PSs.nox ?_, ?_⟩)
  · obtain ⟨_, rfl, _⟩ := h
    rfl
  · exact (pss_cons (ps_asg (pv 0) (pg_tup (by rfl) (pgs_cons (pg_name (i := 1) sc_rule_text.nd rfl (Or.inl rfl)) (pgs_cons (pg_name (i := 2) sc_rule_text.nd rfl (Or.inl rfl)) (pgs_cons (pg_name (i := 3) sc_rule_text.nd rfl (Or.inl rfl)) (pgs_cons (pg_name (i := 4) sc_rule_text.nd rfl (Or.inl rfl)) pgs_nil))))))
  (pss_one (ps_ret (pe_joined (PJ.cons (pe_fmt (pv 1)) (PJ.cons pe_str (PJ.cons (pe_fmt (pv 2)) (PJ.cons pe_str (PJ.cons (pe_fmt (pv 3)) (PJ.cons pe_str (PJ.cons (pe_fmt (Y.pe_c c_worth_text hr (by decide) rfl pass0 (pa_cons (pv 1) (pa_cons (pv 4) pa_nil)))) PJ.nil)))))))))))
  · obtain ⟨_, rfl, _⟩ := id h
    exact pure_rule_text h
theorem ok_Ltake (T : Txt K mg) {f : Addr} {fd : FuncData} (F : FunD K "_law_take" "_law_take" (defArgs s_Ltake) (defBody s_Ltake) (defScope s_Ltake) [] [] f fd)  : FnG P w K mg base CX0 1 f fd ["_law_row", "_law_base"] (sp_Ltake K) := by
  refine g_def F sc_Ltake (fun vs H Q E h => ?_) (fun cdv A outer s H vs Q E hr h => ⟨t_Ltake K, PSs.nox ?_, ?_⟩)
  · obtain ⟨_, _, rfl, _⟩ := h
    rfl
  · exact (pss_cons (ps_if (pt_cmpR op_gt (pe_ix ix_list (pv 0) pe_int (fun _ _ => rfl)) pe_int (nomark _)) (pss_cons (ps_set (i := 2) sc_Ltake.nd rfl (Or.inl rfl) (pe_op op_mod (pe_ix ix_list (pv 0) pe_int (fun _ _ => rfl)) (pv 1)))
  (pss_cons (ps_asg (pe_op op_fdivW (pe_ix ix_list (pv 0) pe_int (fun _ _ => rfl)) (pv 1)) (pg_sub (pv 0) pe_int set_list))
  (pss_one (ps_ret (pv 2))))) pss_nil)
  (pss_cons (ps_asg (pe_op op_mod (pe_op op_add (pe_op op_mul (pe_ix ix_list (pv 0) pe_int (fun _ _ => rfl)) pe_int) pe_int) pe_int) (pg_sub (pv 0) pe_int set_list))
  (pss_cons (ps_set (i := 3) sc_Ltake.nd rfl (Or.inl rfl) (pe_op op_mod (pe_op op_add (pe_op op_add (pe_op op_mul (pe_ix ix_list (pv 0) pe_int (fun _ _ => rfl)) (pe_ix ix_list (pv 0) pe_int (fun _ _ => rfl))) (pe_op op_mul pe_int (pe_ix ix_list (pv 0) pe_int (fun _ _ => rfl)))) pe_int) pe_int))
  (pss_one (ps_ret (pe_op op_mod (pe_op op_fdivW (pv 3) pe_int) (pv 1)))))))
  · obtain ⟨_, _, rfl, _⟩ := id h
    exact pure_Ltake h
theorem ok_Lcoins (T : Txt K mg) {f : Addr} {fd : FuncData} (F : FunD K "_law_coins" "_law_coins" (defArgs s_Lcoins) (defBody s_Lcoins) (defScope s_Lcoins) [] [] f fd) (c_Ltake : Y.Cal P w K mg base CX0 1 "_law_take" (sp_Ltake K) []) : FnG P w K mg base CX0 2 f fd ["_law_row"] (sp_Lcoins K) := by
  refine g_def F sc_Lcoins (fun vs H Q E h => ?_) (fun cdv A outer s H vs Q E hr h => ⟨t_Lcoins K, PSs.nox ?_, ?_⟩)
  · obtain ⟨_, rfl, _⟩ := h
    rfl
  · exact (pss_cons (ps_set (i := 1) sc_Lcoins.nd rfl (Or.inl rfl) (Y.pe_c c_Ltake hr (by decide) rfl pass0 (pa_cons (pv 0) (pa_cons pe_int pa_nil))))
  (pss_cons (ps_set (i := 2) sc_Lcoins.nd rfl (Or.inl rfl) (pe_op op_mul pe_int (Y.pe_c c_Ltake hr (by decide) rfl pass0 (pa_cons (pv 0) (pa_cons pe_int pa_nil)))))
  (pss_cons (ps_set (i := 3) sc_Lcoins.nd rfl (Or.inl rfl) (pe_op op_add (pe_op op_mul (Y.pe_c c_Ltake hr (by decide) rfl pass0 (pa_cons (pv 0) (pa_cons (pe_op op_pow pe_int pe_int) pa_nil))) (pe_op op_pow pe_int pe_int)) (Y.pe_c c_Ltake hr (by decide) rfl pass0 (pa_cons (pv 0) (pa_cons (pe_op op_pow pe_int pe_int) pa_nil)))))
  (pss_one (ps_ret (pe_ix ix_list (pe_lst (pa_cons (pv 1) (pa_cons (pv 2) (pa_cons (pe_op op_add (pv 1) (pe_op op_mul pe_int (pv 2))) (pa_cons (pv 3) (pa_cons (pe_op op_pow pe_int pe_int) pa_nil)))))) (pe_op op_fdivW (Y.pe_c c_Ltake hr (by decide) rfl pass0 (pa_cons (pv 0) (pa_cons pe_int pa_nil))) pe_int) (fun _ _ => rfl)))))))
  · obtain ⟨_, rfl, _⟩ := id h
    exact pure_Lcoins h
theorem ok_Lworth (T : Txt K mg) {f : Addr} {fd : FuncData} (F : FunD K "_law_worth" "_law_worth" (defArgs s_Lworth) (defBody s_Lworth) (defScope s_Lworth) [] [] f fd) (c_Ltake : Y.Cal P w K mg base CX0 1 "_law_take" (sp_Ltake K) []) (c_Lcoins : Y.Cal P w K mg base CX0 2 "_law_coins" (sp_Lcoins K) []) : FnG P w K mg base CX0 3 f fd ["_law_row", "_law_word"] (sp_Lworth K) := by
  refine g_def F sc_Lworth (fun vs H Q E h => ?_) (fun cdv A outer s H vs Q E hr h => ⟨t_Lworth K, PSs.nox ?_, ?_⟩)
  · obtain ⟨_, _, rfl, _⟩ := h
    rfl
  · exact (pss_cons (ps_if (pt_cmpR op_in_seq (pv 1) (pe_tup (pa_cons pe_str (pa_cons pe_str pa_nil))) (by rfl)) (pss_one (ps_ret (pe_cmpR op_eq (Y.pe_c c_Ltake hr (by decide) rfl pass0 (pa_cons (pv 0) (pa_cons pe_int pa_nil))) pe_int (nomark _)))) pss_nil)
  (pss_cons (ps_if (pt_cmpR op_in_seq (pv 1) (pe_tup (pa_cons pe_str (pa_cons pe_str pa_nil))) (by rfl)) (pss_one (ps_ret (pe_op op_add pe_int (Y.pe_c c_Ltake hr (by decide) rfl pass0 (pa_cons (pv 0) (pa_cons (pe_ix ix_list (pe_lst (pa_cons pe_int (pa_cons pe_int pa_nil))) (Y.pe_c c_Ltake hr (by decide) rfl pass0 (pa_cons (pv 0) (pa_cons pe_int pa_nil))) (fun _ _ => rfl)) pa_nil)))))) pss_nil)
  (pss_cons (ps_if (pt_cmpR op_eq (pv 1) pe_str (nomark _)) (pss_cons (ps_set (i := 2) sc_Lworth.nd rfl (Or.inl rfl) (pe_op op_add pe_int (Y.pe_c c_Ltake hr (by decide) rfl pass0 (pa_cons (pv 0) (pa_cons (pe_ix ix_list (pe_lst (pa_cons pe_int (pa_cons pe_int pa_nil))) (Y.pe_c c_Ltake hr (by decide) rfl pass0 (pa_cons (pv 0) (pa_cons pe_int pa_nil))) (fun _ _ => rfl)) pa_nil)))))
  (pss_cons (ps_set (i := 3) sc_Lworth.nd rfl (Or.inl rfl) (pe_op op_add pe_int (Y.pe_c c_Ltake hr (by decide) rfl pass0 (pa_cons (pv 0) (pa_cons (pe_op op_sub (pv 2) pe_int) pa_nil)))))
  (pss_one (ps_ret (pe_ix ix_list (pe_lst (pa_cons (pe_tup (pa_cons (pv 2) (pa_cons (pv 3) pa_nil))) (pa_cons (pe_tup (pa_cons (pv 2) (pa_cons (pv 3) pa_nil))) (pa_cons pe_non pa_nil)))) (Y.pe_c c_Ltake hr (by decide) rfl pass0 (pa_cons (pv 0) (pa_cons pe_int pa_nil))) (fun _ _ => rfl)))))) pss_nil)
  (pss_cons (ps_set (i := 4) sc_Lworth.nd rfl (Or.inl rfl) (Y.pe_c c_Lcoins hr (by decide) rfl pass0 (pa_cons (pv 0) pa_nil)))
  (pss_cons (ps_if (PW.pt (pw_and (pt_cmpR op_eq (pv 1) pe_str (nomark _)) (pw_and1 (pt_cmpR op_eq (Y.pe_c c_Ltake hr (by decide) rfl pass0 (pa_cons (pv 0) (pa_cons pe_int pa_nil))) pe_int (nomark _))))) (pss_one (ps_ret pe_non)) pss_nil)
  (pss_one (ps_ret (pv 4))))))))
  · obtain ⟨_, _, rfl, _⟩ := id h
    exact pure_Lworth h
theorem ok_Lrule (T : Txt K mg) {f : Addr} {fd : FuncData} (F : FunD K "_law_rule" "_law_rule" (defArgs s_Lrule) (defBody s_Lrule) (defScope s_Lrule) [] [] f fd) (c_Ltake : Y.Cal P w K mg base CX0 1 "_law_take" (sp_Ltake K) []) (c_Lworth : Y.Cal P w K mg base CX0 3 "_law_worth" (sp_Lworth K) []) : FnG P w K mg base CX0 4 f fd ["_law_row", "_law_day"] (sp_Lrule K) := by
  refine g_def F sc_Lrule (fun vs H Q E h => ?_) (fun cdv A outer s H vs Q E hr h => ⟨t_Lrule K, PSs.nox ?_, ?_⟩)
  · obtain ⟨_, _, rfl, _⟩ := h
    rfl
  · exact (pss_cons (ps_set (i := 2) sc_Lrule.nd rfl (Or.inl rfl) (pe_ix ix_list (pe_lst (pa_cons pe_str (pa_cons pe_str (pa_cons pe_str (pa_cons pe_str (pa_cons pe_str (pa_cons pe_str (pa_cons pe_str (pa_cons pe_str (pa_cons pe_str pa_nil)))))))))) (Y.pe_c c_Ltake hr (by decide) rfl pass0 (pa_cons (pv 0) (pa_cons pe_int pa_nil))) (fun _ _ => rfl)))
  (pss_cons (ps_set (i := 3) sc_Lrule.nd rfl (Or.inl rfl) (pe_ix ix_list (pe_lst (pa_cons (pe_op op_sub (Y.pe_c c_Ltake hr (by decide) rfl pass0 (pa_cons (pv 0) (pa_cons pe_int pa_nil))) pe_int) (pa_cons (Y.pe_c c_Ltake hr (by decide) rfl pass0 (pa_cons (pv 0) (pa_cons pe_int pa_nil))) (pa_cons (pe_un un_neg (pv 1)) (pa_cons pe_int pa_nil))))) (Y.pe_c c_Ltake hr (by decide) rfl pass0 (pa_cons (pv 0) (pa_cons pe_int pa_nil))) (fun _ _ => rfl)))
  (pss_cons (ps_set (i := 4) sc_Lrule.nd rfl (Or.inl rfl) (pe_callB (call_min2 rfl) (by rfl) T.b_min (by decide +kernel) (pa_cons (pe_op op_pow pe_int pe_int) (pa_cons (pe_callB (call_max2 rfl) (by rfl) T.b_max (by decide +kernel) (pa_cons pe_int (pa_cons (pe_op op_add (pv 1) (pv 3)) pa_nil))) pa_nil))))
  (pss_cons (ps_set (i := 5) sc_Lrule.nd rfl (Or.inl rfl) (pe_op op_add (pv 4) (pe_ix ix_list (pe_lst (pa_cons pe_int (pa_cons (Y.pe_c c_Ltake hr (by decide) rfl pass0 (pa_cons (pv 0) (pa_cons pe_int pa_nil))) (pa_cons (Y.pe_c c_Ltake hr (by decide) rfl pass0 (pa_cons (pv 0) (pa_cons pe_int pa_nil))) (pa_cons pe_int (pa_cons (pe_op op_pow pe_int pe_int) pa_nil)))))) (Y.pe_c c_Ltake hr (by decide) rfl pass0 (pa_cons (pv 0) (pa_cons pe_int pa_nil))) (fun _ _ => rfl))))
  (pss_one (ps_ret (pe_tup (pa_cons (pv 2) (pa_cons (pv 4) (pa_cons (pe_callB (call_min2 rfl) (by rfl) T.b_min (by decide +kernel) (pa_cons (pe_op op_pow pe_int pe_int) (pa_cons (pv 5) pa_nil))) (pa_cons (Y.pe_c c_Lworth hr (by decide) rfl pass0 (pa_cons (pv 0) (pa_cons (pv 2) pa_nil))) pa_nil)))))))))))
  · obtain ⟨_, _, rfl, _⟩ := id h
    exact pure_Lrule h
theorem ok_Lodd (T : Txt K mg) {f : Addr} {fd : FuncData} (F : FunD K "_law_odd" "_law_odd" (defArgs s_Lodd) (defBody s_Lodd) (defScope s_Lodd) [] [] f fd) (c_Ltake : Y.Cal P w K mg base CX0 1 "_law_take" (sp_Ltake K) []) : FnG P w K mg base CX0 2 f fd ["_law_row"] (sp_Lodd K) := by
  refine g_def F sc_Lodd (fun vs H Q E h => ?_) (fun cdv A outer s H vs Q E hr h => ⟨t_Lodd K, PSs.nox ?_, ?_⟩)
  · obtain ⟨_, rfl, _⟩ := h
    rfl
  · exact (pss_cons (ps_set (i := 1) sc_Lodd.nd rfl (Or.inl rfl) (pe_lst (pa_cons pe_str (pa_cons pe_str (pa_cons pe_str (pa_cons pe_str (pa_cons pe_str (pa_cons pe_str (pa_cons pe_str (pa_cons pe_str (pa_cons pe_str (pa_cons pe_str (pa_cons pe_str pa_nil)))))))))))))
  (pss_cons (ps_set (i := 1) sc_Lodd.nd rfl (Or.inl rfl) (pe_op op_cat (pv 1) (pe_lst (pa_cons pe_str (pa_cons pe_str (pa_cons pe_str (pa_cons pe_str (pa_cons pe_str (pa_cons pe_str (pa_cons pe_str (pa_cons pe_str (pa_cons pe_str (pa_cons pe_str pa_nil)))))))))))))
  (pss_one (ps_ret (pe_ix ix_list (pe_op op_cat (pv 1) (pe_lst (pa_cons pe_str (pa_cons (pe_op Y.op_mulS pe_str pe_int) (pa_cons pe_str (pa_cons pe_str (pa_cons pe_str pa_nil))))))) (Y.pe_c c_Ltake hr (by decide) rfl pass0 (pa_cons (pv 0) (pa_cons pe_int pa_nil))) (fun _ _ => rfl))))))
  · obtain ⟨_, rfl, _⟩ := id h
    exact pure_Lodd h
theorem ok_Lbent (T : Txt K mg) {f : Addr} {fd : FuncData} (F : FunD K "_law_bent" "_law_bent" (defArgs s_Lbent) (defBody s_Lbent) (defScope s_Lbent) [] [] f fd) (c_Ltake : Y.Cal P w K mg base CX0 1 "_law_take" (sp_Ltake K) []) (c_Lodd : Y.Cal P w K mg base CX0 2 "_law_odd" (sp_Lodd K) []) : FnG P w K mg base CX0 3 f fd ["_law_row", "_law_text"] (sp_Lbent K) := by
  refine g_def F sc_Lbent (fun vs H Q E h => ?_) (fun cdv A outer s H vs Q E hr h => ⟨t_Lbent K, PSs.nox ?_, ?_⟩)
  · obtain ⟨_, _, rfl, _⟩ := h
    rfl
  · exact (pss_cons (ps_set (i := 2) sc_Lbent.nd rfl (Or.inl rfl) (pe_split (pv 1) pe_str))
  (pss_cons (ps_set (i := 3) sc_Lbent.nd rfl (Or.inl rfl) (Y.pe_c c_Ltake hr (by decide) rfl pass0 (pa_cons (pv 0) (pa_cons (pe_callB call_len_seq (by rfl) T.b_len (by decide +kernel) (pa_cons (pv 2) pa_nil)) pa_nil))))
  (pss_cons (ps_set (i := 4) sc_Lbent.nd rfl (Or.inl rfl) (Y.pe_c c_Ltake hr (by decide) rfl pass0 (pa_cons (pv 0) (pa_cons (pe_callB call_len_seq (by rfl) T.b_len (by decide +kernel) (pa_cons (pv 2) pa_nil)) pa_nil))))
  (pss_cons (ps_set (i := 5) sc_Lbent.nd rfl (Or.inl rfl) (Y.pe_c c_Ltake hr (by decide) rfl pass0 (pa_cons (pv 0) (pa_cons pe_int pa_nil))))
  (pss_cons (ps_if (pt_cmpR op_eq (pv 5) pe_int (nomark _)) (pss_one (ps_expr (pe_bm PySem.F.plainAttrs_list PySem.F.slot_list_pop PySem.F.type_list_pop mt_popAt (pv 2) (pa_cons (pv 3) pa_nil)))) (pss_one (ps_if (pt_cmpR op_eq (pv 5) pe_int (nomark _)) (pss_one (ps_expr (pe_bm PySem.F.plainAttrs_list PySem.F.slot_list_insert PySem.F.type_list_insert mt_insert (pv 2) (pa_cons (pv 3) (pa_cons (pe_ix ix_list (pv 2) (pv 4) (fun _ _ => rfl)) pa_nil))))) (pss_one (ps_if (pt_cmpR op_eq (pv 5) pe_int (nomark _)) (pss_one (ps_asg (pe_tup (pa_cons (pe_ix ix_list (pv 2) (pv 4) (fun _ _ => rfl)) (pa_cons (pe_ix ix_list (pv 2) (pv 3) (fun _ _ => rfl)) pa_nil))) (pg_tup (by rfl) (pgs_cons (pg_sub (pv 2) (pv 3) set_list) (pgs_cons (pg_sub (pv 2) (pv 4) set_list) pgs_nil))))) (pss_one (ps_if (pt_cmpR op_eq (pv 5) pe_int (nomark _)) (pss_one (ps_expr (pe_bm PySem.F.plainAttrs_list PySem.F.slot_list_insert PySem.F.type_list_insert mt_insert (pv 2) (pa_cons (pv 3) (pa_cons (Y.pe_c c_Lodd hr (by decide) rfl pass0 (pa_cons (pv 0) pa_nil)) pa_nil))))) (pss_one (ps_if (pt_cmpR op_lt (pv 5) pe_int (nomark _)) (pss_one (ps_asg (Y.pe_c c_Lodd hr (by decide) rfl pass0 (pa_cons (pv 0) pa_nil)) (pg_sub (pv 2) (pv 3) set_list))) (pss_one (ps_if (pt_cmpR op_eq (pv 5) pe_int (nomark _)) (pss_one (ps_expr (pe_bm PySem.F.plainAttrs_list PySem.F.slot_list_append PySem.F.type_list_append mt_append (pv 2) (pa_cons (Y.pe_c c_Lodd hr (by decide) rfl pass0 (pa_cons (pv 0) pa_nil)) pa_nil)))) (pss_one (ps_if (pt_cmpR op_eq (pv 5) pe_int (nomark _)) (pss_cons (ps_set (i := 6) sc_Lbent.nd rfl (Or.inl rfl) (Y.pe_c c_Ltake hr (by decide) rfl pass0 (pa_cons (pv 0) (pa_cons (pe_op op_add (pe_callB call_len_str (by rfl) T.b_len (by decide +kernel) (pa_cons (pv 1) pa_nil)) pe_int) pa_nil))))
  (pss_cons (ps_set (i := 7) sc_Lbent.nd rfl (Or.inl rfl) (pe_ix ix_list (pe_lst (pa_cons pe_str (pa_cons pe_str (pa_cons pe_str (pa_cons pe_str (pa_cons pe_str (pa_cons pe_str pa_nil))))))) (Y.pe_c c_Ltake hr (by decide) rfl pass0 (pa_cons (pv 0) (pa_cons pe_int pa_nil))) (fun _ _ => rfl)))
  (pss_one (ps_ret (pe_op op_add_str (pe_op op_add_str (pe_slice C8.sl_txt (pv 1) po_none (po_some (pv 6))) (pv 7)) (pe_slice C8.sl_txt (pv 1) (po_some (pe_op op_add (pv 6) (Y.pe_c c_Ltake hr (by decide) rfl pass0 (pa_cons (pv 0) (pa_cons pe_int pa_nil))))) po_none)))))) (pss_one (ps_if (pt_cmpR op_eq (pv 5) pe_int (nomark _)) (pss_one (ps_ret (pe_slice C8.sl_txt (pv 1) po_none (po_some (Y.pe_c c_Ltake hr (by decide) rfl pass0 (pa_cons (pv 0) (pa_cons (pe_op op_add (pe_callB call_len_str (by rfl) T.b_len (by decide +kernel) (pa_cons (pv 1) pa_nil)) pe_int) pa_nil))))))) pss_nil)))))))))))))))
  (pss_one (ps_ret (pe_join pe_str (pv 2)))))))))
  · obtain ⟨_, _, rfl, _⟩ := id h
    exact pure_Lbent h
theorem ok_Lnumber (T : Txt K mg) {f : Addr} {fd : FuncData} (F : FunD K "_law_number" "_law_number" (defArgs s_Lnumber) (defBody s_Lnumber) (defScope s_Lnumber) [] [] f fd)  : FnG P w K mg base CX0 1 f fd ["_law_word"] (sp_Lnumber K) := by
  refine g_def F sc_Lnumber (fun vs H Q E h => ?_) (fun cdv A outer s H vs Q E hr h => ⟨t_Lnumber K, PSs.nox ?_, ?_⟩)
  · obtain ⟨_, rfl, _⟩ := h
    rfl
  · exact (pss_cons (ps_if (PW.pt (pw_or (pt_cmpR op_eq (pe_callB call_len_str (by rfl) T.b_len (by decide +kernel) (pa_cons (pv 0) pa_nil)) pe_int (nomark _)) (pw_or1 (pt_cmpR op_gt (pe_callB call_len_seq (by rfl) T.b_len (by decide +kernel) (pa_cons (pe_lc (own := [("_law_sign", 1)]) (g := (gName 1)) (tt := (tTest (tOp Y.rNotInS (tVar 1) (tC (.str "0123456789"))))) rfl sc_Lnumber.nd (pi_str (pv 0)) (blkOk_by (own := [("_law_sign", 1)]) (N := ["_law_word", "_law_sign"]) (sc := defScope s_Lnumber) (by decide +kernel)) (fun _ _ _ _ _ => (pg_name (i := 1) sc_Lnumber.nd rfl (Or.inl rfl))) (fun _ _ _ _ _ => (pts_one (pt_cmpR op_notIn_sign (pv 1) pe_str (by rfl)))) (fun _ _ _ _ _ => (pv 1))) pa_nil)) pe_int (nomark _))))) (pss_one (ps_ret (pe_un un_neg pe_int))) pss_nil)
  (pss_cons (ps_if (PW.pt (pw_and (pt_cmpR op_gt (pe_callB call_len_str (by rfl) T.b_len (by decide +kernel) (pa_cons (pv 0) pa_nil)) pe_int (nomark _)) (pw_and1 (pt_cmpR op_eq (pe_ix ix_str (pv 0) pe_int (fun _ _ => rfl)) pe_str (nomark _))))) (pss_one (ps_ret (pe_un un_neg pe_int))) pss_nil)
  (pss_one (ps_ret (pe_callTy call_int_str (by rfl) T.b_int (by decide +kernel) (pa_cons (pv 0) pa_nil))))))
  · obtain ⟨_, rfl, _⟩ := id h
    exact pure_Lnumber h
theorem ok_Lpair (T : Txt K mg) {f : Addr} {fd : FuncData} (F : FunD K "_law_pair" "_law_pair" (defArgs s_Lpair) (defBody s_Lpair) (defScope s_Lpair) [] [] f fd) (c_Lnumber : Y.Cal P w K mg base CX0 1 "_law_number" (sp_Lnumber K) []) : FnG P w K mg base CX0 2 f fd ["_law_words"] (sp_Lpair K) := by
  refine g_def F sc_Lpair (fun vs H Q E h => ?_) (fun cdv A outer s H vs Q E hr h => ⟨t_Lpair K, PSs.nox ?_, ?_⟩)
  · obtain ⟨_, rfl, _⟩ := h
    rfl
  · exact (pss_cons (ps_asg (pe_lc (own := [("_law_word", 3)]) (g := (gName 3)) (tt := tYes) rfl sc_Lpair.nd (pi_list (pv 0)) (blkOk_by (own := [("_law_word", 3)]) (N := ["_law_words", "_law_many", "_law_free", "_law_word"]) (sc := defScope s_Lpair) (by decide +kernel)) (fun _ _ _ _ _ => (pg_name (i := 3) sc_Lpair.nd rfl (Or.inl rfl))) (fun _ _ _ _ _ => pts_nil) (fun _ _ _ _ _ => (Y.pe_c c_Lnumber hr (by decide) rfl pass0 (pa_cons (pv 3) pa_nil)))) (pg_lst (by rfl) (pgs_cons (pg_name (i := 1) sc_Lpair.nd rfl (Or.inl rfl)) (pgs_cons (pg_name (i := 2) sc_Lpair.nd rfl (Or.inl rfl)) pgs_nil))))
  (pss_cons (ps_if (PW.pt (pw_and (pt_chain op_le op_le pe_int (pv 1) pe_int) (pw_and1 (pt_chain op_le op_lt pe_int (pv 2) (pv 1))))) (pss_one (ps_ret (pe_tup (pa_cons (pv 1) (pa_cons (pv 2) pa_nil))))) pss_nil)
  (pss_one (ps_ret (pe_un un_neg pe_int)))))
  · obtain ⟨_, rfl, _⟩ := id h
    exact pure_Lpair h
theorem ok_Lworth_by (T : Txt K mg) {f : Addr} {fd : FuncData} (F : FunD K "_law_worth_by" "_law_worth_by" (defArgs s_Lworth_by) (defBody s_Lworth_by) (defScope s_Lworth_by) [] [] f fd) (c_Lpair : Y.Cal P w K mg base CX0 2 "_law_pair" (sp_Lpair K) []) (c_Lnumber : Y.Cal P w K mg base CX0 1 "_law_number" (sp_Lnumber K) []) : FnG P w K mg base CX0 3 f fd ["_law_word", "_law_words"] (sp_Lworth_by K) := by
  refine g_def F sc_Lworth_by (fun vs H Q E h => ?_) (fun cdv A outer s H vs Q E hr h => ⟨t_Lworth_by K, PSs.nox ?_, ?_⟩)
  · obtain ⟨_, _, rfl, _⟩ := h
    rfl
  · exact (pss_cons (ps_if (PW.pt (pw_and (pt_cmpR op_eq (pv 0) pe_str (nomark _)) (pw_and1 (pt_cmpR op_eq (pe_callB call_len_seq (by rfl) T.b_len (by decide +kernel) (pa_cons (pv 1) pa_nil)) pe_int (nomark _))))) (pss_one (ps_ret (Y.pe_c c_Lpair hr (by decide) rfl pass0 (pa_cons (pv 1) pa_nil)))) pss_nil)
  (pss_cons (ps_if (pt_cmpR op_ne (pe_callB call_len_seq (by rfl) T.b_len (by decide +kernel) (pa_cons (pv 1) pa_nil)) pe_int (nomark _)) (pss_one (ps_ret (pe_un un_neg pe_int))) pss_nil)
  (pss_cons (ps_if (PW.pt (pw_and (pt_cmpR (op_eqD hr.units) (pv 1) (pe_lst (pa_cons pe_str pa_nil)) (nomark _)) (pw_and1 (pt_cmpR op_in_seq (pv 0) (pe_tup (pa_cons pe_str (pa_cons pe_str pa_nil))) (by rfl))))) (pss_one (ps_ret pe_non)) pss_nil)
  (pss_cons (ps_if (pt_cmpR op_in_seq (pv 0) (pe_tup (pa_cons pe_str (pa_cons pe_str pa_nil))) (by rfl)) (pss_one (ps_ret (pe_dget2 (hu_of hr.rm) (pe_disp (pps_cons pe_str pe_bl (pps_cons pe_str pe_bl pps_nil)) rfl rfl (by simp) (by simp)) (pe_ix ix_list (pv 1) pe_int (fun _ _ => rfl)) (pe_un un_neg pe_int) ⟨by rfl, by rfl, by rfl, by rfl⟩))) pss_nil)
  (pss_cons (ps_set (i := 2) sc_Lworth_by.nd rfl (Or.inl rfl) (Y.pe_c c_Lnumber hr (by decide) rfl pass0 (pa_cons (pe_ix ix_list (pv 1) pe_int (fun _ _ => rfl)) pa_nil)))
  (pss_cons (ps_if (PW.pt (pw_and (pt_cmpR op_in_seq (pv 0) (pe_tup (pa_cons pe_str (pa_cons pe_str pa_nil))) (by rfl)) (pw_and1 (pt_cmpR op_le (pv 2) (pe_op op_pow pe_int pe_int) (nomark _))))) (pss_one (ps_ret (pv 2))) pss_nil)
  (pss_cons (ps_if (PW.pt (pw_and (pt_cmpR op_in_seq (pv 0) (pe_tup (pa_cons pe_str (pa_cons pe_str pa_nil))) (by rfl)) (pw_and1 (pt_chain op_le op_le pe_int (pv 2) pe_int)))) (pss_one (ps_ret (pv 2))) pss_nil)
  (pss_one (ps_ret (pe_un un_neg pe_int))))))))))
  · obtain ⟨_, _, rfl, _⟩ := id h
    exact pure_Lworth_by h
theorem ok_Ldue (T : Txt K mg) {f : Addr} {fd : FuncData} (F : FunD K "_law_due" "_law_due" (defArgs s_Ldue) (defBody s_Ldue) (defScope s_Ldue) [] [] f fd) (c_Lnumber : Y.Cal P w K mg base CX0 1 "_law_number" (sp_Lnumber K) []) (c_Lworth_by : Y.Cal P w K mg base CX0 3 "_law_worth_by" (sp_Lworth_by K) []) : FnG P w K mg base CX0 4 f fd ["_law_text"] (sp_Ldue K) := by
  refine g_def F sc_Ldue (fun vs H Q E h => ?_) (fun cdv A outer s H vs Q E hr h => ⟨t_Ldue K, PSs.nox ?_, ?_⟩)
  · obtain ⟨_, rfl, _⟩ := h
    rfl
  · exact (pss_cons (ps_set (i := 1) sc_Ldue.nd rfl (Or.inl rfl) (pe_split (pv 0) pe_str))
  (pss_cons (ps_if (PW.pt (pw_or (pt_cmpR op_lt (pe_callB call_len_seq (by rfl) T.b_len (by decide +kernel) (pa_cons (pv 1) pa_nil)) pe_int (nomark _)) (pw_or1 (pt_cmpR op_notIn_seq (pe_ix ix_list (pv 1) pe_int (fun _ _ => rfl)) (pe_tup (pa_cons pe_str (pa_cons pe_str (pa_cons pe_str (pa_cons pe_str (pa_cons pe_str (pa_cons pe_str (pa_cons pe_str pa_nil)))))))) (by rfl))))) (pss_one (ps_ret pe_non)) pss_nil)
  (pss_cons (ps_asg (pe_lc (own := [("_law_word", 5)]) (g := (gName 5)) (tt := tYes) rfl sc_Ldue.nd (pi_list (pe_slice sl_list (pv 1) (po_some pe_int) (po_some pe_int))) (blkOk_by (own := [("_law_word", 5)]) (N := ["_law_text", "_law_words", "_law_first", "_law_last", "_law_worth_here", "_law_word"]) (sc := defScope s_Ldue) (by decide +kernel)) (fun _ _ _ _ _ => (pg_name (i := 5) sc_Ldue.nd rfl (Or.inl rfl))) (fun _ _ _ _ _ => pts_nil) (fun _ _ _ _ _ => (Y.pe_c c_Lnumber hr (by decide) rfl pass0 (pa_cons (pv 5) pa_nil)))) (pg_lst (by rfl) (pgs_cons (pg_name (i := 2) sc_Ldue.nd rfl (Or.inl rfl)) (pgs_cons (pg_name (i := 3) sc_Ldue.nd rfl (Or.inl rfl)) pgs_nil))))
  (pss_cons (ps_set (i := 4) sc_Ldue.nd rfl (Or.inl rfl) (Y.pe_c c_Lworth_by hr (by decide) rfl pass0 (pa_cons (pe_ix ix_list (pv 1) pe_int (fun _ _ => rfl)) (pa_cons (pe_slice sl_list (pv 1) (po_some pe_int) po_none) pa_nil))))
  (pss_cons (ps_if (PW.pt (pw_or (pt_not (Y.pt_chain3 op_le op_le op_le pe_int (pv 2) (pv 3) (pe_op op_pow pe_int pe_int))) (pw_or1 (PW.pt (pw_and (pt_val (pe_callB call_isi (by rfl) T.b_isinstance (by decide +kernel) (pa_cons (pv 4) (pa_cons (pe_bltn (v := .ty "int") (by rfl) T.b_int (by decide +kernel) rfl) pa_nil)))) (pw_and (pt_not (pt_val (pe_callB call_isi (by rfl) T.b_isinstance (by decide +kernel) (pa_cons (pv 4) (pa_cons (pe_bltn (v := .ty "bool") (by rfl) T.b_bool (by decide +kernel) rfl) pa_nil))))) (pw_and1 (pt_cmpR op_lt (pv 4) pe_int (nomark _))))))))) (pss_one (ps_ret pe_non)) pss_nil)
  (pss_one (ps_ret (pe_tup (pa_cons (pe_ix ix_list (pv 1) pe_int (fun _ _ => rfl)) (pa_cons (pv 2) (pa_cons (pv 3) (pa_cons (pv 4) pa_nil))))))))))))
  · obtain ⟨_, rfl, _⟩ := id h
    exact pure_Ldue h
theorem ok_number_by (T : Txt K mg) {f : Addr} {fd : FuncData} (F : FunD K "number_by" "number_by" (defArgs s_number_by) (defBody s_number_by) (defScope s_number_by) [] [] f fd)  : FnG P w K mg base CX0 1 f fd ["word"] (sp_number_by K) := by
  refine g_def F sc_number_by (fun vs H Q E h => ?_) (fun cdv A outer s H vs Q E hr h => ⟨t_number_by K, PSs.nox ?_, ?_⟩)
  · obtain ⟨_, rfl, _⟩ := h
    rfl
  · exact (pss_cons (ps_if (PW.pt (pw_or (pt_cmpR op_eq (pv 0) pe_str (nomark _)) (pw_or (pt_not (pt_val (pe_callB (cr_all rfl) (by rfl) T.b_all (by decide +kernel) (pa_cons (pe_lc (own := [("sign", 1)]) (g := (gName 1)) (tt := tYes) rfl sc_number_by.nd (pi_str (pv 0)) (blkOk_by (own := [("sign", 1)]) (N := ["word", "sign"]) (sc := defScope s_number_by) (by decide +kernel)) (fun _ _ _ _ _ => (pg_name (i := 1) sc_number_by.nd rfl (Or.inl rfl))) (fun _ _ _ _ _ => pts_nil) (fun _ _ _ _ _ => (pe_cmpR op_in_sign (pv 1) (pe_glob rfl T.c_FIGURES.choose_spec.1 T.c_FIGURES.choose_spec.2) (by rfl)))) pa_nil)))) (pw_or1 (PW.pt (pw_and (pt_cmpR op_eq (pe_ix ix_str (pv 0) pe_int (fun _ _ => rfl)) pe_str (nomark _)) (pw_and1 (pt_cmpR op_ne (pv 0) pe_str (nomark _))))))))) (pss_one (ps_ret pe_non)) pss_nil)
  (pss_one (ps_ret (pe_callTy call_int_str (by rfl) T.b_int (by decide +kernel) (pa_cons (pv 0) pa_nil)))))
  · obtain ⟨_, rfl, _⟩ := id h
    exact pure_number_by h
theorem ok_worths_by (T : Txt K mg) {f : Addr} {fd : FuncData} (F : FunD K "worths_by" "worths_by" (defArgs s_worths_by) (defBody s_worths_by) (defScope s_worths_by) [] [] f fd) (c_number_by : Y.Cal P w K mg base CX0 1 "number_by" (sp_number_by K) []) : FnG P w K mg base CX0 2 f fd ["word", "words"] (sp_worths_by K) := by
  refine g_def F sc_worths_by (fun vs H Q E h => ?_) (fun cdv A outer s H vs Q E hr h => ⟨t_worths_by K, PSs.nox ?_, ?_⟩)
  · obtain ⟨_, _, rfl, _⟩ := h
    rfl
  · exact (pss_cons (ps_if (PW.pt (pw_or (pt_cmpR op_eq (pv 0) pe_str (nomark _)) (pw_or1 (pt_cmpR op_eq (pv 0) pe_str (nomark _))))) (pss_one (ps_ret (pe_lc (own := [("text", 4), ("worth", 5)]) (g := (gTup K 2 (gCons (gName 4) (gCons (gName 5) gNil)))) (tt := (tTest (tOp (rEqD K) (tVar 1) (tLst (tCons (tVar 4) tNil))))) rfl sc_worths_by.nd (pi_tup (pe_tup (pa_cons (pe_tup (pa_cons pe_str (pa_cons pe_bl pa_nil))) (pa_cons (pe_tup (pa_cons pe_str (pa_cons pe_bl pa_nil))) pa_nil)))) (blkOk_by (own := [("text", 4), ("worth", 5)]) (N := ["word", "words", "numbers", "one", "text", "worth"]) (sc := defScope s_worths_by) (by decide +kernel)) (fun _ _ _ _ _ => (pg_tup (by rfl) (pgs_cons (pg_name (i := 4) sc_worths_by.nd rfl (Or.inl rfl)) (pgs_cons (pg_name (i := 5) sc_worths_by.nd rfl (Or.inl rfl)) pgs_nil)))) (fun _ _ _ _ _ => (pts_one (pt_cmpR (op_eqD hr.units) (pv 1) (pe_lst (pa_cons (pv 4) pa_nil)) (nomark _)))) (fun _ _ _ _ _ => (pv 5))))) pss_nil)
  (pss_cons (ps_if (pt_cmpR (op_eqD hr.units) (pv 1) (pe_lst (pa_cons pe_str pa_nil)) (nomark _)) (pss_one (ps_ret (pe_lst (pa_cons pe_non pa_nil)))) pss_nil)
  (pss_cons (ps_setLc (i := 2) (own := [("one", 3)]) (g := (gName 3)) (tt := tYes) rfl sc_worths_by.nd rfl rfl (sw_true rfl rfl rfl (by decide +kernel)) (pi_list (pv 1)) (blkOk_by (own := [("one", 3)]) (N := ["word", "words", "numbers", "one", "text", "worth"]) (sc := defScope s_worths_by) (by decide +kernel)) (fun _ _ _ _ _ => (pg_name (i := 3) sc_worths_by.nd rfl (Or.inl rfl))) (fun _ _ _ _ _ => pts_nil) (fun _ _ _ _ _ => (Y.pe_c c_number_by hr (by decide) rfl pass0 (pa_cons (pv 3) pa_nil))))
  (pss_cons (ps_if (pt_cmpR op_eq (pv 0) pe_str (nomark _)) (pss_one (ps_ret (pe_lst (pa_cons (pe_callTy call_tuple_of (by rfl) T.b_tuple (by decide +kernel) (pa_cons (pv 2) pa_nil)) pa_nil)))) pss_nil)
  (pss_one (ps_ret (pe_slice sl_list (pv 2) po_none (po_some (pe_callTy call_int1 (by rfl) T.b_int (by decide +kernel) (pa_cons (pe_cmpR op_eq (pe_callB call_len_seq (by rfl) T.b_len (by decide +kernel) (pa_cons (pv 2) pa_nil)) pe_int (nomark _)) pa_nil))))))))))
  · obtain ⟨_, _, rfl, _⟩ := id h
    exact pure_worths_by h
theorem ok_is_whole (T : Txt K mg) {f : Addr} {fd : FuncData} (F : FunD K "is_whole" "is_whole" (defArgs s_is_whole) (defBody s_is_whole) (defScope s_is_whole) [] [] f fd)  : FnG P w K mg base CX0 1 f fd ["thing"] (sp_is_whole K) := by
  refine g_def F sc_is_whole (fun vs H Q E h => ?_) (fun cdv A outer s H vs Q E hr h => ⟨t_is_whole K, PSs.nox ?_, ?_⟩)
  · obtain ⟨_, rfl, _⟩ := h
    rfl
  · exact (pss_one (ps_ret (pe_and (pe_callB call_isi (by rfl) T.b_isinstance (by decide +kernel) (pa_cons (pv 0) (pa_cons (pe_bltn (v := .ty "int") (by rfl) T.b_int (by decide +kernel) rfl) pa_nil))) (pe_one (pe_not (pe_callB call_isi (by rfl) T.b_isinstance (by decide +kernel) (pa_cons (pv 0) (pa_cons (pe_bltn (v := .ty "bool") (by rfl) T.b_bool (by decide +kernel) rfl) pa_nil))))))))
  · obtain ⟨_, rfl, _⟩ := id h
    exact pure_is_whole h
theorem ok_is_day (T : Txt K mg) {f : Addr} {fd : FuncData} (F : FunD K "is_day" "is_day" (defArgs s_is_day) (defBody s_is_day) (defScope s_is_day) [] [] f fd) (c_is_whole : Y.Cal P w K mg base CX0 1 "is_whole" (sp_is_whole K) []) : FnG P w K mg base CX0 2 f fd ["thing"] (sp_is_day K) := by
  refine g_def F sc_is_day (fun vs H Q E h => ?_) (fun cdv A outer s H vs Q E hr h => ⟨t_is_day K, PSs.nox ?_, ?_⟩)
  · obtain ⟨_, rfl, _⟩ := h
    rfl
  · exact (pss_one (ps_ret (pe_and (Y.pe_c c_is_whole hr (by decide) rfl pass0 (pa_cons (pv 0) pa_nil)) (pe_one (pe_chain op_le op_le pe_int (pv 0) (pe_glob rfl T.c_LAST_DAY.choose_spec.1 T.c_LAST_DAY.choose_spec.2))))))
  · obtain ⟨_, rfl, _⟩ := id h
    exact pure_is_day h
theorem ok_is_two_days (T : Txt K mg) {f : Addr} {fd : FuncData} (F : FunD K "is_two_days" "is_two_days" (defArgs s_is_two_days) (defBody s_is_two_days) (defScope s_is_two_days) [] [] f fd) (c_is_day : Y.Cal P w K mg base CX0 2 "is_day" (sp_is_day K) []) : FnG P w K mg base CX0 3 f fd ["thing"] (sp_is_two_days K) := by
  refine g_def F sc_is_two_days (fun vs H Q E h => ?_) (fun cdv A outer s H vs Q E hr h => ⟨t_is_two_days K, PSs.nox ?_, ?_⟩)
  · obtain ⟨_, rfl, _⟩ := h
    rfl
  · exact (pss_one (ps_ret (pe_and (pe_callB call_isi (by rfl) T.b_isinstance (by decide +kernel) (pa_cons (pv 0) (pa_cons (pe_bltn (v := .ty "tuple") (by rfl) T.b_tuple (by decide +kernel) rfl) pa_nil))) (pe_and (pe_cmpR op_eq (pe_callB call_len_seq (by rfl) T.b_len (by decide +kernel) (pa_cons (pv 0) pa_nil)) pe_int (nomark _)) (pe_and (Y.pe_c c_is_day hr (by decide) rfl pass0 (pa_cons (pe_ix ix_tup (pv 0) pe_int (fun _ _ => rfl)) pa_nil)) (pe_one (Y.pe_c c_is_day hr (by decide) rfl pass0 (pa_cons (pe_ix ix_tup (pv 0) pe_int (fun _ _ => rfl)) pa_nil))))))))
  · obtain ⟨_, rfl, _⟩ := id h
    exact pure_is_two_days h
theorem ok_is_stretch (T : Txt K mg) {f : Addr} {fd : FuncData} (F : FunD K "is_stretch" "is_stretch" (defArgs s_is_stretch) (defBody s_is_stretch) (defScope s_is_stretch) [] [] f fd) (c_is_two_days : Y.Cal P w K mg base CX0 3 "is_two_days" (sp_is_two_days K) []) : FnG P w K mg base CX0 4 f fd ["thing"] (sp_is_stretch K) := by
  refine g_def F sc_is_stretch (fun vs H Q E h => ?_) (fun cdv A outer s H vs Q E hr h => ⟨t_is_stretch K, PSs.nox ?_, ?_⟩)
  · obtain ⟨_, rfl, _⟩ := h
    rfl
  · exact (pss_one (ps_ret (pe_and (Y.pe_c c_is_two_days hr (by decide) rfl pass0 (pa_cons (pv 0) pa_nil)) (pe_one (pe_cmpR op_le (pe_ix ix_tup (pv 0) pe_int (fun _ _ => rfl)) (pe_ix ix_tup (pv 0) pe_int (fun _ _ => rfl)) (nomark _))))))
  · obtain ⟨_, rfl, _⟩ := id h
    exact pure_is_stretch h
theorem ok_Rule_init (T : Txt K mg) {f : Addr} {fd : FuncData} (F : FunD K "__init__" "Rule.__init__" (defArgs s_Rule_init) (defBody s_Rule_init) (defScope s_Rule_init) [] [] f fd)  : FnG P w K mg base CX0 1 f fd ["self", "first", "last", "worth"] (sp_Rule_init K) := by
  refine g_def F sc_Rule_init (fun vs H Q E h => ?_) (fun cdv A outer s H vs Q E hr h => ⟨t_Rule_init K, PSs.nox ?_, ?_⟩)
  · obtain ⟨_, _, _, _, rfl, _⟩ := h
    rfl
  · exact (pss_cons (ps_fld (pv 0) (pv 1) rfl)
  (pss_cons (ps_fld (pv 0) (pv 2) rfl)
  (pss_one (ps_fld (pv 0) (pv 3) rfl))))
  · obtain ⟨_, _, _, _, rfl, _⟩ := id h
    exact pure_Rule_init h
theorem ok_made (T : Txt K mg) {f : Addr} {fd : FuncData} (F : FunD K "made" "made" (defArgs s_made) (defBody s_made) (defScope s_made) [] [] f fd) (c_Price : Y.Mak P w K mg base CX0 1 "Price" (He.ga K "Price") (sp_Rule_init K) []) (c_Come : Y.Mak P w K mg base CX0 1 "Come" (He.ga K "Come") (sp_Rule_init K) []) (c_Go : Y.Mak P w K mg base CX0 1 "Go" (He.ga K "Go") (sp_Rule_init K) []) (c_Least : Y.Mak P w K mg base CX0 1 "Least" (He.ga K "Least") (sp_Rule_init K) []) (c_Most : Y.Mak P w K mg base CX0 1 "Most" (He.ga K "Most") (sp_Rule_init K) []) (c_Deal : Y.Mak P w K mg base CX0 1 "Deal" (He.ga K "Deal") (sp_Rule_init K) []) (c_Fee : Y.Mak P w K mg base CX0 1 "Fee" (He.ga K "Fee") (sp_Rule_init K) []) : FnG P w K mg base CX0 3 f fd ["word", "first", "last", "worth"] (sp_made K) := by
  refine g_def F sc_made (fun vs H Q E h => ?_) (fun cdv A outer s H vs Q E hr h => ⟨t_made K, PSs.nox ?_, ?_⟩)
  · obtain ⟨_, _, _, _, rfl, _⟩ := h
    rfl
  · exact (pss_cons (ps_if (pt_cmpR op_eq (pv 0) pe_str (nomark _)) (pss_one (ps_ret (Y.pe_k c_Price hr (by decide) rfl pass0 (pa_cons (pv 1) (pa_cons (pv 2) (pa_cons (pv 3) pa_nil)))))) pss_nil)
  (pss_cons (ps_if (pt_cmpR op_eq (pv 0) pe_str (nomark _)) (pss_one (ps_ret (Y.pe_k c_Come hr (by decide) rfl pass0 (pa_cons (pv 1) (pa_cons (pv 2) (pa_cons (pv 3) pa_nil)))))) pss_nil)
  (pss_cons (ps_if (pt_cmpR op_eq (pv 0) pe_str (nomark _)) (pss_one (ps_ret (Y.pe_k c_Go hr (by decide) rfl pass0 (pa_cons (pv 1) (pa_cons (pv 2) (pa_cons (pv 3) pa_nil)))))) pss_nil)
  (pss_cons (ps_if (pt_cmpR op_eq (pv 0) pe_str (nomark _)) (pss_one (ps_ret (Y.pe_k c_Least hr (by decide) rfl pass0 (pa_cons (pv 1) (pa_cons (pv 2) (pa_cons (pv 3) pa_nil)))))) pss_nil)
  (pss_cons (ps_if (pt_cmpR op_eq (pv 0) pe_str (nomark _)) (pss_one (ps_ret (Y.pe_k c_Most hr (by decide) rfl pass0 (pa_cons (pv 1) (pa_cons (pv 2) (pa_cons (pv 3) pa_nil)))))) pss_nil)
  (pss_cons (ps_if (pt_cmpR op_eq (pv 0) pe_str (nomark _)) (pss_one (ps_ret (Y.pe_k c_Deal hr (by decide) rfl pass0 (pa_cons (pv 1) (pa_cons (pv 2) (pa_cons (pv 3) pa_nil)))))) pss_nil)
  (pss_one (ps_ret (Y.pe_k c_Fee hr (by decide) rfl pass0 (pa_cons (pv 1) (pa_cons (pv 2) (pa_cons (pv 3) pa_nil))))))))))))
  · obtain ⟨_, _, _, _, rfl, _⟩ := id h
    exact pure_made h
theorem ok_is_coins (T : Txt K mg) {f : Addr} {fd : FuncData} (F : FunD K "is_coins" "is_coins" (defArgs s_is_coins) (defBody s_is_coins) (defScope s_is_coins) [] [] f fd) (c_is_whole : Y.Cal P w K mg base CX0 1 "is_whole" (sp_is_whole K) []) : FnG P w K mg base CX0 2 f fd ["thing"] (sp_is_coins K) := by
  refine g_def F sc_is_coins (fun vs H Q E h => ?_) (fun cdv A outer s H vs Q E hr h => ⟨t_is_coins K, PSs.nox ?_, ?_⟩)
  · obtain ⟨_, rfl, _⟩ := h
    rfl
  · exact (pss_one (ps_ret (pe_and (Y.pe_c c_is_whole hr (by decide) rfl pass0 (pa_cons (pv 0) pa_nil)) (pe_one (pe_chain op_le op_le pe_int (pv 0) (pe_glob rfl T.c_MOST_COINS.choose_spec.1 T.c_MOST_COINS.choose_spec.2))))))
  · obtain ⟨_, rfl, _⟩ := id h
    exact pure_is_coins h
theorem ok_Price_fits (T : Txt K mg) {f : Addr} {fd : FuncData} (F : FunD K "fits" "Price.fits" (defArgs s_Price_fits) (defBody s_Price_fits) (defScope s_Price_fits) [] [] f fd) (c_is_coins : Y.Cal P w K mg base CX0 2 "is_coins" (sp_is_coins K) []) : FnG P w K mg base CX0 3 f fd ["self"] (sp_Price_fits K) := by
  refine g_def F sc_Price_fits (fun vs H Q E h => ?_) (fun cdv A outer s H vs Q E hr h => ⟨t_Price_fits K, PSs.nox ?_, ?_⟩)
  · obtain ⟨_, rfl, _⟩ := h
    rfl
  · exact (pss_one (ps_ret (pe_or (pe_cmpR op_isN (pe_fld (pv 0) rfl) pe_non (nomark _)) (pe_one (Y.pe_c c_is_coins hr (by decide) rfl pass0 (pa_cons (pe_fld (pv 0) rfl) pa_nil))))))
  · obtain ⟨_, rfl, _⟩ := id h
    exact pure_Price_fits h
theorem ok_Come_fits (T : Txt K mg) {f : Addr} {fd : FuncData} (F : FunD K "fits" "Come.fits" (defArgs s_Come_fits) (defBody s_Come_fits) (defScope s_Come_fits) [] [] f fd)  : FnG P w K mg base CX0 1 f fd ["self"] (sp_Come_fits K) := by
  refine g_def F sc_Come_fits (fun vs H Q E h => ?_) (fun cdv A outer s H vs Q E hr h => ⟨t_Come_fits K, PSs.nox ?_, ?_⟩)
  · obtain ⟨_, rfl, _⟩ := h
    rfl
  · exact (pss_one (ps_ret (pe_callB call_isi (by rfl) T.b_isinstance (by decide +kernel) (pa_cons (pe_fld (pv 0) rfl) (pa_cons (pe_bltn (v := .ty "bool") (by rfl) T.b_bool (by decide +kernel) rfl) pa_nil)))))
  · obtain ⟨_, rfl, _⟩ := id h
    exact pure_Come_fits h
theorem ok_Go_fits (T : Txt K mg) {f : Addr} {fd : FuncData} (F : FunD K "fits" "Go.fits" (defArgs s_Go_fits) (defBody s_Go_fits) (defScope s_Go_fits) [] [] f fd)  : FnG P w K mg base CX0 1 f fd ["self"] (sp_Go_fits K) := by
  refine g_def F sc_Go_fits (fun vs H Q E h => ?_) (fun cdv A outer s H vs Q E hr h => ⟨t_Go_fits K, PSs.nox ?_, ?_⟩)
  · obtain ⟨_, rfl, _⟩ := h
    rfl
  · exact (pss_one (ps_ret (pe_callB call_isi (by rfl) T.b_isinstance (by decide +kernel) (pa_cons (pe_fld (pv 0) rfl) (pa_cons (pe_bltn (v := .ty "bool") (by rfl) T.b_bool (by decide +kernel) rfl) pa_nil)))))
  · obtain ⟨_, rfl, _⟩ := id h
    exact pure_Go_fits h
theorem ok_is_nights (T : Txt K mg) {f : Addr} {fd : FuncData} (F : FunD K "is_nights" "is_nights" (defArgs s_is_nights) (defBody s_is_nights) (defScope s_is_nights) [] [] f fd) (c_is_whole : Y.Cal P w K mg base CX0 1 "is_whole" (sp_is_whole K) []) : FnG P w K mg base CX0 2 f fd ["thing"] (sp_is_nights K) := by
  refine g_def F sc_is_nights (fun vs H Q E h => ?_) (fun cdv A outer s H vs Q E hr h => ⟨t_is_nights K, PSs.nox ?_, ?_⟩)
  · obtain ⟨_, rfl, _⟩ := h
    rfl
  · exact (pss_one (ps_ret (pe_and (Y.pe_c c_is_whole hr (by decide) rfl pass0 (pa_cons (pv 0) pa_nil)) (pe_one (pe_chain op_le op_le pe_int (pv 0) (pe_glob rfl T.c_MOST_NIGHTS.choose_spec.1 T.c_MOST_NIGHTS.choose_spec.2))))))
  · obtain ⟨_, rfl, _⟩ := id h
    exact pure_is_nights h
theorem ok_Least_fits (T : Txt K mg) {f : Addr} {fd : FuncData} (F : FunD K "fits" "Least.fits" (defArgs s_Least_fits) (defBody s_Least_fits) (defScope s_Least_fits) [] [] f fd) (c_is_nights : Y.Cal P w K mg base CX0 2 "is_nights" (sp_is_nights K) []) : FnG P w K mg base CX0 3 f fd ["self"] (sp_Least_fits K) := by
  refine g_def F sc_Least_fits (fun vs H Q E h => ?_) (fun cdv A outer s H vs Q E hr h => ⟨t_Least_fits K, PSs.nox ?_, ?_⟩)
  · obtain ⟨_, rfl, _⟩ := h
    rfl
  · exact (pss_one (ps_ret (Y.pe_c c_is_nights hr (by decide) rfl pass0 (pa_cons (pe_fld (pv 0) rfl) pa_nil))))
  · obtain ⟨_, rfl, _⟩ := id h
    exact pure_Least_fits h
theorem ok_Most_fits (T : Txt K mg) {f : Addr} {fd : FuncData} (F : FunD K "fits" "Most.fits" (defArgs s_Most_fits) (defBody s_Most_fits) (defScope s_Most_fits) [] [] f fd) (c_is_nights : Y.Cal P w K mg base CX0 2 "is_nights" (sp_is_nights K) []) : FnG P w K mg base CX0 3 f fd ["self"] (sp_Most_fits K) := by
  refine g_def F sc_Most_fits (fun vs H Q E h => ?_) (fun cdv A outer s H vs Q E hr h => ⟨t_Most_fits K, PSs.nox ?_, ?_⟩)
  · obtain ⟨_, rfl, _⟩ := h
    rfl
  · exact (pss_one (ps_ret (Y.pe_c c_is_nights hr (by decide) rfl pass0 (pa_cons (pe_fld (pv 0) rfl) pa_nil))))
  · obtain ⟨_, rfl, _⟩ := id h
    exact pure_Most_fits h
theorem ok_Deal_fits (T : Txt K mg) {f : Addr} {fd : FuncData} (F : FunD K "fits" "Deal.fits" (defArgs s_Deal_fits) (defBody s_Deal_fits) (defScope s_Deal_fits) [] [] f fd) (c_is_nights : Y.Cal P w K mg base CX0 2 "is_nights" (sp_is_nights K) []) (c_is_whole : Y.Cal P w K mg base CX0 1 "is_whole" (sp_is_whole K) []) : FnG P w K mg base CX0 3 f fd ["self"] (sp_Deal_fits K) := by
  refine g_def F sc_Deal_fits (fun vs H Q E h => ?_) (fun cdv A outer s H vs Q E hr h => ⟨t_Deal_fits K, PSs.nox ?_, ?_⟩)
  · obtain ⟨_, rfl, _⟩ := h
    rfl
  · exact (pss_cons (ps_if (pt_cmpR op_isN (pe_fld (pv 0) rfl) pe_non (nomark _)) (pss_one (ps_ret pe_bl)) pss_nil)
  (pss_cons (ps_if (PW.pt (pw_or (pt_not (pt_val (pe_callB call_isi (by rfl) T.b_isinstance (by decide +kernel) (pa_cons (pe_fld (pv 0) rfl) (pa_cons (pe_bltn (v := .ty "tuple") (by rfl) T.b_tuple (by decide +kernel) rfl) pa_nil))))) (pw_or1 (pt_cmpR op_ne (pe_callB call_len (by rfl) T.b_len (by decide +kernel) (pa_cons (pe_fld (pv 0) rfl) pa_nil)) pe_int (nomark _))))) (pss_one (ps_ret pe_bl)) pss_nil)
  (pss_cons (ps_asg (pe_fld (pv 0) rfl) (pg_tup (by rfl) (pgs_cons (pg_name (i := 1) sc_Deal_fits.nd rfl (Or.inl rfl)) (pgs_cons (pg_name (i := 2) sc_Deal_fits.nd rfl (Or.inl rfl)) pgs_nil))))
  (pss_one (ps_ret (pe_and (Y.pe_c c_is_nights hr (by decide) rfl pass0 (pa_cons (pv 1) pa_nil)) (pe_and (Y.pe_c c_is_whole hr (by decide) rfl pass0 (pa_cons (pv 2) pa_nil)) (pe_one (pe_chain op_le op_lt pe_int (pv 2) (pv 1))))))))))
  · obtain ⟨_, rfl, _⟩ := id h
    exact pure_Deal_fits h
theorem ok_Fee_fits (T : Txt K mg) {f : Addr} {fd : FuncData} (F : FunD K "fits" "Fee.fits" (defArgs s_Fee_fits) (defBody s_Fee_fits) (defScope s_Fee_fits) [] [] f fd) (c_is_coins : Y.Cal P w K mg base CX0 2 "is_coins" (sp_is_coins K) []) : FnG P w K mg base CX0 3 f fd ["self"] (sp_Fee_fits K) := by
  refine g_def F sc_Fee_fits (fun vs H Q E h => ?_) (fun cdv A outer s H vs Q E hr h => ⟨t_Fee_fits K, PSs.nox ?_, ?_⟩)
  · obtain ⟨_, rfl, _⟩ := h
    rfl
  · exact (pss_one (ps_ret (Y.pe_c c_is_coins hr (by decide) rfl pass0 (pa_cons (pe_fld (pv 0) rfl) pa_nil))))
  · obtain ⟨_, rfl, _⟩ := id h
    exact pure_Fee_fits h
theorem ok_rule_of (T : Txt K mg) {f : Addr} {fd : FuncData} (F : FunD K "rule_of" "rule_of" (defArgs s_rule_of) (defBody s_rule_of) (defScope s_rule_of) [] [] f fd) (c_is_stretch : Y.Cal P w K mg base CX0 4 "is_stretch" (sp_is_stretch K) []) (c_made : Y.Cal P w K mg base CX0 3 "made" (sp_made K) []) (c_Price_fits : Y.Met P w K mg base CX0 3 (He.ga K "Price") "fits" (sp_Price_fits K) []) (c_Come_fits : Y.Met P w K mg base CX0 1 (He.ga K "Come") "fits" (sp_Come_fits K) []) (c_Go_fits : Y.Met P w K mg base CX0 1 (He.ga K "Go") "fits" (sp_Go_fits K) []) (c_Least_fits : Y.Met P w K mg base CX0 3 (He.ga K "Least") "fits" (sp_Least_fits K) []) (c_Most_fits : Y.Met P w K mg base CX0 3 (He.ga K "Most") "fits" (sp_Most_fits K) []) (c_Deal_fits : Y.Met P w K mg base CX0 3 (He.ga K "Deal") "fits" (sp_Deal_fits K) []) (c_Fee_fits : Y.Met P w K mg base CX0 3 (He.ga K "Fee") "fits" (sp_Fee_fits K) []) : FnG P w K mg base CX0 5 f fd ["thing"] (sp_rule_of K) := by
  refine g_def F sc_rule_of (fun vs H Q E h => ?_) (fun cdv A outer s H vs Q E hr h => ⟨t_rule_of K, PSs.nox ?_, ?_⟩)
  · obtain ⟨_, rfl, _⟩ := h
    rfl
  · exact (pss_cons (ps_if (PW.pt (pw_or (pt_not (pt_val (pe_callB call_isi (by rfl) T.b_isinstance (by decide +kernel) (pa_cons (pv 0) (pa_cons (pe_bltn (v := .ty "tuple") (by rfl) T.b_tuple (by decide +kernel) rfl) pa_nil))))) (pw_or (pt_cmpR op_ne (pe_callB call_len_seq (by rfl) T.b_len (by decide +kernel) (pa_cons (pv 0) pa_nil)) pe_int (nomark _)) (pw_or (pt_not (pt_val (pe_callB call_isi (by rfl) T.b_isinstance (by decide +kernel) (pa_cons (pe_ix ix_tup (pv 0) pe_int (fun _ _ => rfl)) (pa_cons (pe_bltn (v := .ty "str") (by rfl) T.b_str (by decide +kernel) rfl) pa_nil))))) (pw_or1 (pt_cmpR op_notIn_seq (pe_ix ix_tup (pv 0) pe_int (fun _ _ => rfl)) (pe_glob rfl T.c_WORDS.choose_spec.1 T.c_WORDS.choose_spec.2) (by rfl))))))) (pss_one (ps_ret pe_non)) pss_nil)
  (pss_cons (ps_if (pt_not (pt_val (Y.pe_c c_is_stretch hr (by decide) rfl pass0 (pa_cons (pe_tup (pa_cons (pe_ix ix_tup (pv 0) pe_int (fun _ _ => rfl)) (pa_cons (pe_ix ix_tup (pv 0) pe_int (fun _ _ => rfl)) pa_nil))) pa_nil)))) (pss_one (ps_ret pe_non)) pss_nil)
  (pss_cons (ps_set (i := 1) sc_rule_of.nd rfl (Or.inl rfl) (Y.pe_c c_made hr (by decide) rfl pass0 (pa_cons (pe_ix ix_tup (pv 0) pe_int (fun _ _ => rfl)) (pa_cons (pe_ix ix_tup (pv 0) pe_int (fun _ _ => rfl)) (pa_cons (pe_ix ix_tup (pv 0) pe_int (fun _ _ => rfl)) (pa_cons (pe_ix ix_tup (pv 0) pe_int (fun _ _ => rfl)) pa_nil))))))
  (pss_cons (ps_if (pt_not (pt_val (Y.pe_rule fun w => match w with | .price => Y.pe_m0 c_Price_fits hr (by decide) pass0 (pv 1) | .come => Y.pe_m0 c_Come_fits hr (by decide) pass0 (pv 1) | .go => Y.pe_m0 c_Go_fits hr (by decide) pass0 (pv 1) | .least => Y.pe_m0 c_Least_fits hr (by decide) pass0 (pv 1) | .most => Y.pe_m0 c_Most_fits hr (by decide) pass0 (pv 1) | .deal => Y.pe_m0 c_Deal_fits hr (by decide) pass0 (pv 1) | .fee => Y.pe_m0 c_Fee_fits hr (by decide) pass0 (pv 1)))) (pss_one (ps_ret pe_non)) pss_nil)
  (pss_one (ps_ret (pv 1)))))))
  · obtain ⟨_, rfl, _⟩ := id h
    exact pure_rule_of h
theorem ok_Price_word (T : Txt K mg) {f : Addr} {fd : FuncData} (F : FunD K "word" "Price.word" (defArgs s_Price_word) (defBody s_Price_word) (defScope s_Price_word) [] [] f fd)  : FnG P w K mg base CX0 1 f fd ["self"] (sp_Price_word K) := by
  refine g_def F sc_Price_word (fun vs H Q E h => ?_) (fun cdv A outer s H vs Q E hr h => ⟨t_Price_word K, PSs.nox ?_, ?_⟩)
  · obtain ⟨_, rfl, _⟩ := h
    rfl
  · exact (pss_one (ps_ret pe_str))
  · obtain ⟨_, rfl, _⟩ := id h
    exact pure_Price_word h
theorem ok_Come_word (T : Txt K mg) {f : Addr} {fd : FuncData} (F : FunD K "word" "Come.word" (defArgs s_Come_word) (defBody s_Come_word) (defScope s_Come_word) [] [] f fd)  : FnG P w K mg base CX0 1 f fd ["self"] (sp_Come_word K) := by
  refine g_def F sc_Come_word (fun vs H Q E h => ?_) (fun cdv A outer s H vs Q E hr h => ⟨t_Come_word K, PSs.nox ?_, ?_⟩)
  · obtain ⟨_, rfl, _⟩ := h
    rfl
  · exact (pss_one (ps_ret pe_str))
  · obtain ⟨_, rfl, _⟩ := id h
    exact pure_Come_word h
theorem ok_Go_word (T : Txt K mg) {f : Addr} {fd : FuncData} (F : FunD K "word" "Go.word" (defArgs s_Go_word) (defBody s_Go_word) (defScope s_Go_word) [] [] f fd)  : FnG P w K mg base CX0 1 f fd ["self"] (sp_Go_word K) := by
  refine g_def F sc_Go_word (fun vs H Q E h => ?_) (fun cdv A outer s H vs Q E hr h => ⟨t_Go_word K, PSs.nox ?_, ?_⟩)
  · obtain ⟨_, rfl, _⟩ := h
    rfl
  · exact (pss_one (ps_ret pe_str))
  · obtain ⟨_, rfl, _⟩ := id h
    exact pure_Go_word h
theorem ok_Least_word (T : Txt K mg) {f : Addr} {fd : FuncData} (F : FunD K "word" "Least.word" (defArgs s_Least_word) (defBody s_Least_word) (defScope s_Least_word) [] [] f fd)  : FnG P w K mg base CX0 1 f fd ["self"] (sp_Least_word K) := by
  refine g_def F sc_Least_word (fun vs H Q E h => ?_) (fun cdv A outer s H vs Q E hr h => ⟨t_Least_word K, PSs.nox ?_, ?_⟩)
  · obtain ⟨_, rfl, _⟩ := h
    rfl
  · exact (pss_one (ps_ret pe_str))
  · obtain ⟨_, rfl, _⟩ := id h
    exact pure_Least_word h
theorem ok_Most_word (T : Txt K mg) {f : Addr} {fd : FuncData} (F : FunD K "word" "Most.word" (defArgs s_Most_word) (defBody s_Most_word) (defScope s_Most_word) [] [] f fd)  : FnG P w K mg base CX0 1 f fd ["self"] (sp_Most_word K) := by
  refine g_def F sc_Most_word (fun vs H Q E h => ?_) (fun cdv A outer s H vs Q E hr h => ⟨t_Most_word K, PSs.nox ?_, ?_⟩)
  · obtain ⟨_, rfl, _⟩ := h
    rfl
  · exact (pss_one (ps_ret pe_str))
  · obtain ⟨_, rfl, _⟩ := id h
    exact pure_Most_word h
theorem ok_Deal_word (T : Txt K mg) {f : Addr} {fd : FuncData} (F : FunD K "word" "Deal.word" (defArgs s_Deal_word) (defBody s_Deal_word) (defScope s_Deal_word) [] [] f fd)  : FnG P w K mg base CX0 1 f fd ["self"] (sp_Deal_word K) := by
  refine g_def F sc_Deal_word (fun vs H Q E h => ?_) (fun cdv A outer s H vs Q E hr h => ⟨t_Deal_word K, PSs.nox ?_, ?_⟩)
  · obtain ⟨_, rfl, _⟩ := h
    rfl
  · exact (pss_one (ps_ret pe_str))
  · obtain ⟨_, rfl, _⟩ := id h
    exact pure_Deal_word h
theorem ok_Fee_word (T : Txt K mg) {f : Addr} {fd : FuncData} (F : FunD K "word" "Fee.word" (defArgs s_Fee_word) (defBody s_Fee_word) (defScope s_Fee_word) [] [] f fd)  : FnG P w K mg base CX0 1 f fd ["self"] (sp_Fee_word K) := by
  refine g_def F sc_Fee_word (fun vs H Q E h => ?_) (fun cdv A outer s H vs Q E hr h => ⟨t_Fee_word K, PSs.nox ?_, ?_⟩)
  · obtain ⟨_, rfl, _⟩ := h
    rfl
  · exact (pss_one (ps_ret pe_str))
  · obtain ⟨_, rfl, _⟩ := id h
    exact pure_Fee_word h
theorem ok_Rule_told (T : Txt K mg) {f : Addr} {fd : FuncData} (F : FunD K "told" "Rule.told" (defArgs s_Rule_told) (defBody s_Rule_told) (defScope s_Rule_told) [] [] f fd) (c_Price_word : Y.Met P w K mg base CX0 1 (He.ga K "Price") "word" (sp_Price_word K) []) (c_Come_word : Y.Met P w K mg base CX0 1 (He.ga K "Come") "word" (sp_Come_word K) []) (c_Go_word : Y.Met P w K mg base CX0 1 (He.ga K "Go") "word" (sp_Go_word K) []) (c_Least_word : Y.Met P w K mg base CX0 1 (He.ga K "Least") "word" (sp_Least_word K) []) (c_Most_word : Y.Met P w K mg base CX0 1 (He.ga K "Most") "word" (sp_Most_word K) []) (c_Deal_word : Y.Met P w K mg base CX0 1 (He.ga K "Deal") "word" (sp_Deal_word K) []) (c_Fee_word : Y.Met P w K mg base CX0 1 (He.ga K "Fee") "word" (sp_Fee_word K) []) : FnG P w K mg base CX0 2 f fd ["self"] (sp_Rule_told K) := by
  refine g_def F sc_Rule_told (fun vs H Q E h => ?_) (fun cdv A outer s H vs Q E hr h => ⟨t_Rule_told K, PSs.nox ?_, ?_⟩)
  · obtain ⟨_, rfl, _⟩ := h
    rfl
  · exact (pss_one (ps_ret (pe_tup (pa_cons (Y.pe_rule fun w => match w with | .price => Y.pe_m0 c_Price_word hr (by decide) pass0 (pv 0) | .come => Y.pe_m0 c_Come_word hr (by decide) pass0 (pv 0) | .go => Y.pe_m0 c_Go_word hr (by decide) pass0 (pv 0) | .least => Y.pe_m0 c_Least_word hr (by decide) pass0 (pv 0) | .most => Y.pe_m0 c_Most_word hr (by decide) pass0 (pv 0) | .deal => Y.pe_m0 c_Deal_word hr (by decide) pass0 (pv 0) | .fee => Y.pe_m0 c_Fee_word hr (by decide) pass0 (pv 0)) (pa_cons (pe_fld (pv 0) rfl) (pa_cons (pe_fld (pv 0) rfl) (pa_cons (pe_fld (pv 0) rfl) pa_nil)))))))
  · obtain ⟨_, rfl, _⟩ := id h
    exact pure_Rule_told h
theorem ok_rule_by (T : Txt K mg) {f : Addr} {fd : FuncData} (F : FunD K "rule_by" "rule_by" (defArgs s_rule_by) (defBody s_rule_by) (defScope s_rule_by) [] [] f fd) (c_number_by : Y.Cal P w K mg base CX0 1 "number_by" (sp_number_by K) []) (c_worths_by : Y.Cal P w K mg base CX0 2 "worths_by" (sp_worths_by K) []) (c_rule_of : Y.Cal P w K mg base CX0 5 "rule_of" (sp_rule_of K) []) (c_rule_text : Y.Cal P w K mg base CX0 2 "rule_text" (sp_rule_text K) []) (c_Price_told : Y.Met P w K mg base CX0 2 (He.ga K "Price") "told" (sp_Rule_told K) []) (c_Come_told : Y.Met P w K mg base CX0 2 (He.ga K "Come") "told" (sp_Rule_told K) []) (c_Go_told : Y.Met P w K mg base CX0 2 (He.ga K "Go") "told" (sp_Rule_told K) []) (c_Least_told : Y.Met P w K mg base CX0 2 (He.ga K "Least") "told" (sp_Rule_told K) []) (c_Most_told : Y.Met P w K mg base CX0 2 (He.ga K "Most") "told" (sp_Rule_told K) []) (c_Deal_told : Y.Met P w K mg base CX0 2 (He.ga K "Deal") "told" (sp_Rule_told K) []) (c_Fee_told : Y.Met P w K mg base CX0 2 (He.ga K "Fee") "told" (sp_Rule_told K) []) : FnG P w K mg base CX0 6 f fd ["text"] (sp_rule_by K) := by
  refine g_def F sc_rule_by (fun vs H Q E h => ?_) (fun cdv A outer s H vs Q E hr h => ⟨t_rule_by K, PSs.nox ?_, ?_⟩)
  · obtain ⟨_, rfl, _⟩ := h
    rfl
  · exact (pss_cons (ps_set (i := 1) sc_rule_by.nd rfl (Or.inl rfl) (pe_split (pv 0) pe_str))
  (pss_cons (ps_if (pt_cmpR op_lt (pe_callB call_len_seq (by rfl) T.b_len (by decide +kernel) (pa_cons (pv 1) pa_nil)) pe_int (nomark _)) (pss_one (ps_ret pe_non)) pss_nil)
  (pss_cons (ps_set (i := 2) sc_rule_by.nd rfl (Or.inl rfl) (Y.pe_c c_number_by hr (by decide) rfl pass0 (pa_cons (pe_ix ix_list (pv 1) pe_int (fun _ _ => rfl)) pa_nil)))
  (pss_cons (ps_set (i := 3) sc_rule_by.nd rfl (Or.inl rfl) (Y.pe_c c_number_by hr (by decide) rfl pass0 (pa_cons (pe_ix ix_list (pv 1) pe_int (fun _ _ => rfl)) pa_nil)))
  (pss_cons (ps_for PassesOwn.never rfl (pi_list (Y.pe_c c_worths_by hr (by decide) rfl pass0 (pa_cons (pe_ix ix_list (pv 1) pe_int (fun _ _ => rfl)) (pa_cons (pe_slice sl_list (pv 1) (po_some pe_int) po_none) pa_nil)))) (pg_name (i := 4) sc_rule_by.nd rfl (Or.inl rfl)) (pss_cons (ps_set (i := 5) sc_rule_by.nd rfl (Or.inl rfl) (Y.pe_c c_rule_of hr (by decide) rfl pass0 (pa_cons (pe_tup (pa_cons (pe_ix ix_list (pv 1) pe_int (fun _ _ => rfl)) (pa_cons (pv 2) (pa_cons (pv 3) (pa_cons (pv 4) pa_nil))))) pa_nil)))
  (pss_one (ps_if (PW.pt (pw_and (pt_cmpR op_notN (pv 5) pe_non (nomark _)) (pw_and1 (pt_cmpR op_eq (Y.pe_c c_rule_text hr (by decide) rfl pass0 (pa_cons (Y.pe_rule fun w => match w with | .price => Y.pe_m0 c_Price_told hr (by decide) pass0 (pv 5) | .come => Y.pe_m0 c_Come_told hr (by decide) pass0 (pv 5) | .go => Y.pe_m0 c_Go_told hr (by decide) pass0 (pv 5) | .least => Y.pe_m0 c_Least_told hr (by decide) pass0 (pv 5) | .most => Y.pe_m0 c_Most_told hr (by decide) pass0 (pv 5) | .deal => Y.pe_m0 c_Deal_told hr (by decide) pass0 (pv 5) | .fee => Y.pe_m0 c_Fee_told hr (by decide) pass0 (pv 5)) pa_nil)) (pv 0) (nomark _))))) (pss_one (ps_ret (Y.pe_rule fun w => match w with | .price => Y.pe_m0 c_Price_told hr (by decide) pass0 (pv 5) | .come => Y.pe_m0 c_Come_told hr (by decide) pass0 (pv 5) | .go => Y.pe_m0 c_Go_told hr (by decide) pass0 (pv 5) | .least => Y.pe_m0 c_Least_told hr (by decide) pass0 (pv 5) | .most => Y.pe_m0 c_Most_told hr (by decide) pass0 (pv 5) | .deal => Y.pe_m0 c_Deal_told hr (by decide) pass0 (pv 5) | .fee => Y.pe_m0 c_Fee_told hr (by decide) pass0 (pv 5)))) pss_nil))))
  (pss_one (ps_ret pe_non)))))))
  · obtain ⟨_, rfl, _⟩ := id h
    exact pure_rule_by h
theorem ok_Lright (T : Txt K mg) {f : Addr} {fd : FuncData} (F : FunD K "_law_right" "_law_right" (defArgs s_Lright) (defBody s_Lright) (defScope s_Lright) [] [] f fd) (c_Ldue : Y.Cal P w K mg base CX0 4 "_law_due" (sp_Ldue K) []) (c_rule_by : Y.Cal P w K mg base CX0 6 "rule_by" (sp_rule_by K) []) : FnG P w K mg base CX0 7 f fd ["_law_text"] (sp_Lright K) := by
  refine g_def F sc_Lright (fun vs H Q E h => ?_) (fun cdv A outer s H vs Q E hr h => ⟨t_Lright K, PSs.nox ?_, ?_⟩)
  · obtain ⟨_, rfl, _⟩ := h
    rfl
  · exact (pss_cons (ps_set (i := 1) sc_Lright.nd rfl (Or.inl rfl) (Y.pe_c c_Ldue hr (by decide) rfl pass0 (pa_cons (pv 0) pa_nil)))
  (pss_cons (ps_set (i := 2) sc_Lright.nd rfl (Or.inl rfl) (Y.pe_c c_rule_by hr (by decide) rfl pass0 (pa_cons (pv 0) pa_nil)))
  (pss_cons (ps_if (PW.pt (pw_or (pt_cmpR op_isN (pv 1) pe_non (nomark _)) (pw_or1 (pt_cmpR op_isN (pv 2) pe_non (nomark _))))) (pss_one (ps_ret (pe_and (pe_cmpR op_isN (pv 1) pe_non (nomark _)) (pe_one (pe_cmpR op_isN (pv 2) pe_non (nomark _)))))) pss_nil)
  (pss_one (ps_ret (pe_and (pe_callB call_isi (by rfl) T.b_isinstance (by decide +kernel) (pa_cons (pv 2) (pa_cons (pe_bltn (v := .ty "tuple") (by rfl) T.b_tuple (by decide +kernel) rfl) pa_nil))) (pe_and (pe_cmpR (op_eqD hr.units) (pv 2) (pv 1) (nomark _)) (pe_one (pe_cmpR op_eq (pe_callB call_isi (by rfl) T.b_isinstance (by decide +kernel) (pa_cons (pe_ix ix_tup (pv 2) pe_int (fun _ _ => rfl)) (pa_cons (pe_bltn (v := .ty "bool") (by rfl) T.b_bool (by decide +kernel) rfl) pa_nil))) (pe_callB call_isi (by rfl) T.b_isinstance (by decide +kernel) (pa_cons (pe_ix ix_tup (pv 1) pe_int (fun _ _ => rfl)) (pa_cons (pe_bltn (v := .ty "bool") (by rfl) T.b_bool (by decide +kernel) rfl) pa_nil))) (nomark _))))))))))
  · obtain ⟨_, rfl, _⟩ := id h
    exact pure_Lright h
theorem ok_law (T : Txt K mg) {f : Addr} {fd : FuncData} (F : FunD K "law" "law" (defArgs s_law) (defBody s_law) (defScope s_law) [] [] f fd) (c_Lbegin : Y.Cal P w K mg base CX0 1 "_law_begin" (sp_Lbegin K) []) (c_rule_text : Y.Cal P w K mg base CX0 2 "rule_text" (sp_rule_text K) []) (c_Lrule : Y.Cal P w K mg base CX0 4 "_law_rule" (sp_Lrule K) []) (c_Ltake : Y.Cal P w K mg base CX0 1 "_law_take" (sp_Ltake K) []) (c_Lodd : Y.Cal P w K mg base CX0 2 "_law_odd" (sp_Lodd K) []) (c_Lbent : Y.Cal P w K mg base CX0 3 "_law_bent" (sp_Lbent K) []) (c_Lright : Y.Cal P w K mg base CX0 7 "_law_right" (sp_Lright K) []) : FnG P w K mg base CX0 8 f fd ["_law_script"] (sp_law K) := by
  refine g_def F sc_law (fun vs H Q E h => ?_) (fun cdv A outer s H vs Q E hr h => ⟨t_law K, PSs.nox ?_, ?_⟩)
  · obtain ⟨_, rfl, _⟩ := h
    rfl
  · exact (pss_cons (ps_for PassesOwn.never rfl (pi_list (pe_op op_cat (pe_lst (pa_cons pe_int pa_nil)) (pe_slice sl_list (pv 0) po_none (po_some pe_int)))) (pg_name (i := 1) sc_law.nd rfl (Or.inl rfl)) (pss_cons (ps_set (i := 2) sc_law.nd rfl (Or.inr rfl) (Y.pe_c c_Lbegin hr (by decide) rfl pass0 (pa_cons (pv 1) pa_nil)))
  (pss_cons (ps_set (i := 3) sc_law.nd rfl (Or.inl rfl) (Y.pe_c c_rule_text hr (by decide) rfl pass0 (pa_cons (Y.pe_c c_Lrule hr (by decide) rfl pass0 (pa_cons (pv 2) (pa_cons (pe_ix ix_list (pe_lst (pa_cons pe_int (pa_cons pe_int (pa_cons pe_int (pa_cons (pe_op op_pow pe_int pe_int) pa_nil))))) (Y.pe_c c_Ltake hr (by decide) rfl pass0 (pa_cons (pv 2) (pa_cons pe_int pa_nil))) (fun _ _ => rfl)) pa_nil))) pa_nil)))
  (pss_cons (ps_set (i := 4) sc_law.nd rfl (Or.inl rfl) (Y.pe_c c_Ltake hr (by decide) rfl pass0 (pa_cons (pv 2) (pa_cons pe_int pa_nil))))
  (pss_cons (ps_if (pt_cmpR op_eq (pv 4) pe_int (nomark _)) (pss_one (ps_set (i := 3) sc_law.nd rfl (Or.inl rfl) (pe_op op_add_str (pe_op op_add_str (pv 3) (pe_ix ix_list (pe_lst (pa_cons pe_str (pa_cons pe_str pa_nil))) (Y.pe_c c_Ltake hr (by decide) rfl pass0 (pa_cons (pv 2) (pa_cons pe_int pa_nil))) (fun _ _ => rfl))) (Y.pe_c c_rule_text hr (by decide) rfl pass0 (pa_cons (Y.pe_c c_Lrule hr (by decide) rfl pass0 (pa_cons (pv 2) (pa_cons pe_int pa_nil))) pa_nil))))) (pss_one (ps_if (pt_cmpR op_eq (pv 4) pe_int (nomark _)) (pss_one (ps_set (i := 3) sc_law.nd rfl (Or.inl rfl) (pe_join pe_str (pe_lc (own := [("_law_k", 5)]) (g := (gName 5)) (tt := tYes) rfl sc_law.nd (pi_range1 rfl T.b_range (pa_cons (Y.pe_c c_Ltake hr (by decide) rfl pass0 (pa_cons (pv 2) (pa_cons pe_int pa_nil))) pa_nil)) (blkOk_by (own := [("_law_k", 5)]) (N := ["_law_script", "_law_cell", "_law_row", "_law_text", "_law_way", "_law_k"]) (sc := defScope s_law) (by decide +kernel)) (fun _ _ _ _ _ => (pg_name (i := 5) sc_law.nd rfl (Or.inl rfl))) (fun _ _ _ _ _ => pts_nil) (fun _ _ _ _ _ => (Y.pe_c c_Lodd hr (by decide) rfl pass0 (pa_cons (pv 2) pa_nil))))))) (pss_one (ps_set (i := 3) sc_law.nd rfl (Or.inl rfl) (Y.pe_c c_Lbent hr (by decide) rfl pass0 (pa_cons (pv 2) (pa_cons (pv 3) pa_nil))))))))
  (pss_one (ps_if (PW.pt (pw_or (pt_not (pt_val (Y.pe_c c_Lright hr (by decide) rfl pass0 (pa_cons (pv 3) pa_nil)))) (pw_or1 (pt_not (pt_val (Y.pe_c c_Lright hr (by decide) rfl pass0 (pa_cons (pv 3) pa_nil))))))) (pss_one (ps_ret pe_bl)) pss_nil)))))))
  (pss_one (ps_ret (pe_and (Y.pe_c c_Lright hr (by decide) rfl pass0 (pa_cons pe_str pa_nil)) (pe_and (Y.pe_c c_Lright hr (by decide) rfl pass0 (pa_cons pe_str pa_nil)) (pe_one (Y.pe_c c_Lright hr (by decide) rfl pass0 (pa_cons pe_str pa_nil))))))))
  · obtain ⟨_, rfl, _⟩ := id h
    exact pure_law h
end
theorem facts {P : Program} {w : World} {K : PySem.W.Frag} {h : Heap} {mg : Str → Option Value} {f : Addr} (X : K.In h) (G : h.Ns mainGlobals mg) (hfa : mg ("law" : Str) = some (.ref f)) (c : He.SaysD fa fn K) :
    ∃ fd : FuncData, (∀ (s : Shared) (v : Value), BindsTo s fd ⟨[v], []⟩ [("_law_script", v)]) ∧ ∀ base : Heap, K.In base → base.Ns mainGlobals mg → FnG P w K mg base CX0 8 f fd ["_law_script"] (sp_law K) := by
  obtain ⟨fd_Lbegin, F_Lbegin⟩ := c.def_ 0 (d := d_Lbegin) rfl
  obtain ⟨fd_worth_text, F_worth_text⟩ := c.def_ 1 (d := d_worth_text) rfl
  obtain ⟨fd_rule_text, F_rule_text⟩ := c.def_ 2 (d := d_rule_text) rfl
  obtain ⟨fd_Ltake, F_Ltake⟩ := c.def_ 3 (d := d_Ltake) rfl
  obtain ⟨fd_Lcoins, F_Lcoins⟩ := c.def_ 4 (d := d_Lcoins) rfl
  obtain ⟨fd_Lworth, F_Lworth⟩ := c.def_ 5 (d := d_Lworth) rfl
  obtain ⟨fd_Lrule, F_Lrule⟩ := c.def_ 6 (d := d_Lrule) rfl
  obtain ⟨fd_Lodd, F_Lodd⟩ := c.def_ 7 (d := d_Lodd) rfl
  obtain ⟨fd_Lbent, F_Lbent⟩ := c.def_ 8 (d := d_Lbent) rfl
  obtain ⟨fd_Lnumber, F_Lnumber⟩ := c.def_ 9 (d := d_Lnumber) rfl
  obtain ⟨fd_Lpair, F_Lpair⟩ := c.def_ 10 (d := d_Lpair) rfl
  obtain ⟨fd_Lworth_by, F_Lworth_by⟩ := c.def_ 11 (d := d_Lworth_by) rfl
  obtain ⟨fd_Ldue, F_Ldue⟩ := c.def_ 12 (d := d_Ldue) rfl
  obtain ⟨fd_number_by, F_number_by⟩ := c.def_ 13 (d := d_number_by) rfl
  obtain ⟨fd_worths_by, F_worths_by⟩ := c.def_ 14 (d := d_worths_by) rfl
  obtain ⟨fd_is_whole, F_is_whole⟩ := c.def_ 15 (d := d_is_whole) rfl
  obtain ⟨fd_is_day, F_is_day⟩ := c.def_ 16 (d := d_is_day) rfl
  obtain ⟨fd_is_two_days, F_is_two_days⟩ := c.def_ 17 (d := d_is_two_days) rfl
  obtain ⟨fd_is_stretch, F_is_stretch⟩ := c.def_ 18 (d := d_is_stretch) rfl
  obtain ⟨fd_Price_init, F_Price_init⟩ := c.def_ 19 (d := d_Price_init) rfl
  obtain ⟨fd_Come_init, F_Come_init⟩ := c.def_ 20 (d := d_Come_init) rfl
  obtain ⟨fd_Go_init, F_Go_init⟩ := c.def_ 21 (d := d_Go_init) rfl
  obtain ⟨fd_Least_init, F_Least_init⟩ := c.def_ 22 (d := d_Least_init) rfl
  obtain ⟨fd_Most_init, F_Most_init⟩ := c.def_ 23 (d := d_Most_init) rfl
  obtain ⟨fd_Deal_init, F_Deal_init⟩ := c.def_ 24 (d := d_Deal_init) rfl
  obtain ⟨fd_Fee_init, F_Fee_init⟩ := c.def_ 25 (d := d_Fee_init) rfl
  obtain ⟨fd_made, F_made⟩ := c.def_ 26 (d := d_made) rfl
  obtain ⟨fd_is_coins, F_is_coins⟩ := c.def_ 27 (d := d_is_coins) rfl
  obtain ⟨fd_Price_fits, F_Price_fits⟩ := c.def_ 28 (d := d_Price_fits) rfl
  obtain ⟨fd_Come_fits, F_Come_fits⟩ := c.def_ 29 (d := d_Come_fits) rfl
  obtain ⟨fd_Go_fits, F_Go_fits⟩ := c.def_ 30 (d := d_Go_fits) rfl
  obtain ⟨fd_is_nights, F_is_nights⟩ := c.def_ 31 (d := d_is_nights) rfl
  obtain ⟨fd_Least_fits, F_Least_fits⟩ := c.def_ 32 (d := d_Least_fits) rfl
  obtain ⟨fd_Most_fits, F_Most_fits⟩ := c.def_ 33 (d := d_Most_fits) rfl
  obtain ⟨fd_Deal_fits, F_Deal_fits⟩ := c.def_ 34 (d := d_Deal_fits) rfl
  obtain ⟨fd_Fee_fits, F_Fee_fits⟩ := c.def_ 35 (d := d_Fee_fits) rfl
  obtain ⟨fd_rule_of, F_rule_of⟩ := c.def_ 36 (d := d_rule_of) rfl
  obtain ⟨fd_Price_word, F_Price_word⟩ := c.def_ 37 (d := d_Price_word) rfl
  obtain ⟨fd_Come_word, F_Come_word⟩ := c.def_ 38 (d := d_Come_word) rfl
  obtain ⟨fd_Go_word, F_Go_word⟩ := c.def_ 39 (d := d_Go_word) rfl
  obtain ⟨fd_Least_word, F_Least_word⟩ := c.def_ 40 (d := d_Least_word) rfl
  obtain ⟨fd_Most_word, F_Most_word⟩ := c.def_ 41 (d := d_Most_word) rfl
  obtain ⟨fd_Deal_word, F_Deal_word⟩ := c.def_ 42 (d := d_Deal_word) rfl
  obtain ⟨fd_Fee_word, F_Fee_word⟩ := c.def_ 43 (d := d_Fee_word) rfl
  obtain ⟨fd_Price_told, F_Price_told⟩ := c.def_ 44 (d := d_Price_told) rfl
  obtain ⟨fd_Come_told, F_Come_told⟩ := c.def_ 45 (d := d_Come_told) rfl
  obtain ⟨fd_Go_told, F_Go_told⟩ := c.def_ 46 (d := d_Go_told) rfl
  obtain ⟨fd_Least_told, F_Least_told⟩ := c.def_ 47 (d := d_Least_told) rfl
  obtain ⟨fd_Most_told, F_Most_told⟩ := c.def_ 48 (d := d_Most_told) rfl
  obtain ⟨fd_Deal_told, F_Deal_told⟩ := c.def_ 49 (d := d_Deal_told) rfl
  obtain ⟨fd_Fee_told, F_Fee_told⟩ := c.def_ 50 (d := d_Fee_told) rfl
  obtain ⟨fd_rule_by, F_rule_by⟩ := c.def_ 51 (d := d_rule_by) rfl
  obtain ⟨fd_Lright, F_Lright⟩ := c.def_ 52 (d := d_Lright) rfl
  obtain ⟨fd_law, F_law⟩ := c.def_ 53 (d := d_law) rfl
  obtain ⟨tk0, ek0⟩ := He.str_ok X G (c.fact 71 (f := .str "FIGURES" "0123456789") rfl)
  obtain ⟨tk1, ek1⟩ := He.int_ok X G (c.fact 72 (f := .int "LAST_DAY" 1000000) rfl)
  obtain ⟨tk2, ek2⟩ := He.int_ok X G (c.fact 73 (f := .int "MOST_COINS" 1000000000000) rfl)
  obtain ⟨tk3, ek3⟩ := He.int_ok X G (c.fact 74 (f := .int "MOST_NIGHTS" 14) rfl)
  have T : Txt K mg := ⟨He.free_ok X G (c.fact 61 (f := .free "all") rfl), He.free_ok X G (c.fact 62 (f := .free "bool") rfl), He.free_ok X G (c.fact 63 (f := .free "int") rfl), He.free_ok X G (c.fact 64 (f := .free "isinstance") rfl), He.free_ok X G (c.fact 65 (f := .free "len") rfl), He.free_ok X G (c.fact 66 (f := .free "max") rfl), He.free_ok X G (c.fact 67 (f := .free "min") rfl), He.free_ok X G (c.fact 68 (f := .free "range") rfl), He.free_ok X G (c.fact 69 (f := .free "str") rfl), He.free_ok X G (c.fact 70 (f := .free "tuple") rfl), ⟨_, ek0, tk0, rfl⟩, ⟨_, ek1, tk1, rfl⟩, ⟨_, ek2, tk2, rfl⟩, ⟨_, ek3, tk3, rfl⟩, ⟨_, He.glo_ok X G (c.fact 75 (f := .glo "WORDS") rfl), rfl⟩, He.glo_ok X G (c.fact 76 (f := .glo "Come") rfl), He.glo_ok X G (c.fact 77 (f := .glo "Deal") rfl), He.glo_ok X G (c.fact 78 (f := .glo "Fee") rfl), He.glo_ok X G (c.fact 79 (f := .glo "Go") rfl), He.glo_ok X G (c.fact 80 (f := .glo "Least") rfl), He.glo_ok X G (c.fact 81 (f := .glo "Most") rfl), He.glo_ok X G (c.fact 82 (f := .glo "Price") rfl)⟩
  have e := hfa.symm.trans (He.glo_ok X G (c.fact 60 (f := .glo "law") rfl))
  cases e
  have b := FunD.bindsA (ps := ["_law_script"]) F_law fun _ _ _ _ _ _ us hl => match us, hl with | [_], _ => rfl
  refine ⟨fd_law, fun s v => b s [v] rfl, fun base _ _ => ?_⟩
  have c_Lbegin : Y.Cal P w K mg base CX0 1 "_law_begin" (sp_Lbegin K) [] := ⟨_, fd_Lbegin, ["_law_cell"], [], ok_Lbegin T F_Lbegin , He.glo_ok X G (c.fact 0 (f := .glo "_law_begin") rfl), F_Lbegin.kp, F_Lbegin.bindsN fun _ _ _ _ _ _ us hl => match us, hl with | [_], _ => rfl, .nil⟩
  have c_worth_text : Y.Cal P w K mg base CX0 1 "worth_text" (sp_worth_text K) [] := ⟨_, fd_worth_text, ["word", "worth"], [], ok_worth_text T F_worth_text , He.glo_ok X G (c.fact 1 (f := .glo "worth_text") rfl), F_worth_text.kp, F_worth_text.bindsN fun _ _ _ _ _ _ us hl => match us, hl with | [_, _], _ => rfl, .nil⟩
  have c_rule_text : Y.Cal P w K mg base CX0 2 "rule_text" (sp_rule_text K) [] := ⟨_, fd_rule_text, ["rule"], [], ok_rule_text T F_rule_text c_worth_text, He.glo_ok X G (c.fact 2 (f := .glo "rule_text") rfl), F_rule_text.kp, F_rule_text.bindsN fun _ _ _ _ _ _ us hl => match us, hl with | [_], _ => rfl, .nil⟩
  have c_Ltake : Y.Cal P w K mg base CX0 1 "_law_take" (sp_Ltake K) [] := ⟨_, fd_Ltake, ["_law_row", "_law_base"], [], ok_Ltake T F_Ltake , He.glo_ok X G (c.fact 3 (f := .glo "_law_take") rfl), F_Ltake.kp, F_Ltake.bindsN fun _ _ _ _ _ _ us hl => match us, hl with | [_, _], _ => rfl, .nil⟩
  have c_Lcoins : Y.Cal P w K mg base CX0 2 "_law_coins" (sp_Lcoins K) [] := ⟨_, fd_Lcoins, ["_law_row"], [], ok_Lcoins T F_Lcoins c_Ltake, He.glo_ok X G (c.fact 4 (f := .glo "_law_coins") rfl), F_Lcoins.kp, F_Lcoins.bindsN fun _ _ _ _ _ _ us hl => match us, hl with | [_], _ => rfl, .nil⟩
  have c_Lworth : Y.Cal P w K mg base CX0 3 "_law_worth" (sp_Lworth K) [] := ⟨_, fd_Lworth, ["_law_row", "_law_word"], [], ok_Lworth T F_Lworth c_Ltake c_Lcoins, He.glo_ok X G (c.fact 5 (f := .glo "_law_worth") rfl), F_Lworth.kp, F_Lworth.bindsN fun _ _ _ _ _ _ us hl => match us, hl with | [_, _], _ => rfl, .nil⟩
  have c_Lrule : Y.Cal P w K mg base CX0 4 "_law_rule" (sp_Lrule K) [] := ⟨_, fd_Lrule, ["_law_row", "_law_day"], [], ok_Lrule T F_Lrule c_Ltake c_Lworth, He.glo_ok X G (c.fact 6 (f := .glo "_law_rule") rfl), F_Lrule.kp, F_Lrule.bindsN fun _ _ _ _ _ _ us hl => match us, hl with | [_, _], _ => rfl, .nil⟩
  have c_Lodd : Y.Cal P w K mg base CX0 2 "_law_odd" (sp_Lodd K) [] := ⟨_, fd_Lodd, ["_law_row"], [], ok_Lodd T F_Lodd c_Ltake, He.glo_ok X G (c.fact 7 (f := .glo "_law_odd") rfl), F_Lodd.kp, F_Lodd.bindsN fun _ _ _ _ _ _ us hl => match us, hl with | [_], _ => rfl, .nil⟩
  have c_Lbent : Y.Cal P w K mg base CX0 3 "_law_bent" (sp_Lbent K) [] := ⟨_, fd_Lbent, ["_law_row", "_law_text"], [], ok_Lbent T F_Lbent c_Ltake c_Lodd, He.glo_ok X G (c.fact 8 (f := .glo "_law_bent") rfl), F_Lbent.kp, F_Lbent.bindsN fun _ _ _ _ _ _ us hl => match us, hl with | [_, _], _ => rfl, .nil⟩
  have c_Lnumber : Y.Cal P w K mg base CX0 1 "_law_number" (sp_Lnumber K) [] := ⟨_, fd_Lnumber, ["_law_word"], [], ok_Lnumber T F_Lnumber , He.glo_ok X G (c.fact 9 (f := .glo "_law_number") rfl), F_Lnumber.kp, F_Lnumber.bindsN fun _ _ _ _ _ _ us hl => match us, hl with | [_], _ => rfl, .nil⟩
  have c_Lpair : Y.Cal P w K mg base CX0 2 "_law_pair" (sp_Lpair K) [] := ⟨_, fd_Lpair, ["_law_words"], [], ok_Lpair T F_Lpair c_Lnumber, He.glo_ok X G (c.fact 10 (f := .glo "_law_pair") rfl), F_Lpair.kp, F_Lpair.bindsN fun _ _ _ _ _ _ us hl => match us, hl with | [_], _ => rfl, .nil⟩
  have c_Lworth_by : Y.Cal P w K mg base CX0 3 "_law_worth_by" (sp_Lworth_by K) [] := ⟨_, fd_Lworth_by, ["_law_word", "_law_words"], [], ok_Lworth_by T F_Lworth_by c_Lpair c_Lnumber, He.glo_ok X G (c.fact 11 (f := .glo "_law_worth_by") rfl), F_Lworth_by.kp, F_Lworth_by.bindsN fun _ _ _ _ _ _ us hl => match us, hl with | [_, _], _ => rfl, .nil⟩
  have c_Ldue : Y.Cal P w K mg base CX0 4 "_law_due" (sp_Ldue K) [] := ⟨_, fd_Ldue, ["_law_text"], [], ok_Ldue T F_Ldue c_Lnumber c_Lworth_by, He.glo_ok X G (c.fact 12 (f := .glo "_law_due") rfl), F_Ldue.kp, F_Ldue.bindsN fun _ _ _ _ _ _ us hl => match us, hl with | [_], _ => rfl, .nil⟩
  have c_number_by : Y.Cal P w K mg base CX0 1 "number_by" (sp_number_by K) [] := ⟨_, fd_number_by, ["word"], [], ok_number_by T F_number_by , He.glo_ok X G (c.fact 13 (f := .glo "number_by") rfl), F_number_by.kp, F_number_by.bindsN fun _ _ _ _ _ _ us hl => match us, hl with | [_], _ => rfl, .nil⟩
  have c_worths_by : Y.Cal P w K mg base CX0 2 "worths_by" (sp_worths_by K) [] := ⟨_, fd_worths_by, ["word", "words"], [], ok_worths_by T F_worths_by c_number_by, He.glo_ok X G (c.fact 14 (f := .glo "worths_by") rfl), F_worths_by.kp, F_worths_by.bindsN fun _ _ _ _ _ _ us hl => match us, hl with | [_, _], _ => rfl, .nil⟩
  have c_is_whole : Y.Cal P w K mg base CX0 1 "is_whole" (sp_is_whole K) [] := ⟨_, fd_is_whole, ["thing"], [], ok_is_whole T F_is_whole , He.glo_ok X G (c.fact 15 (f := .glo "is_whole") rfl), F_is_whole.kp, F_is_whole.bindsN fun _ _ _ _ _ _ us hl => match us, hl with | [_], _ => rfl, .nil⟩
  have c_is_day : Y.Cal P w K mg base CX0 2 "is_day" (sp_is_day K) [] := ⟨_, fd_is_day, ["thing"], [], ok_is_day T F_is_day c_is_whole, He.glo_ok X G (c.fact 16 (f := .glo "is_day") rfl), F_is_day.kp, F_is_day.bindsN fun _ _ _ _ _ _ us hl => match us, hl with | [_], _ => rfl, .nil⟩
  have c_is_two_days : Y.Cal P w K mg base CX0 3 "is_two_days" (sp_is_two_days K) [] := ⟨_, fd_is_two_days, ["thing"], [], ok_is_two_days T F_is_two_days c_is_day, He.glo_ok X G (c.fact 17 (f := .glo "is_two_days") rfl), F_is_two_days.kp, F_is_two_days.bindsN fun _ _ _ _ _ _ us hl => match us, hl with | [_], _ => rfl, .nil⟩
  have c_is_stretch : Y.Cal P w K mg base CX0 4 "is_stretch" (sp_is_stretch K) [] := ⟨_, fd_is_stretch, ["thing"], [], ok_is_stretch T F_is_stretch c_is_two_days, He.glo_ok X G (c.fact 18 (f := .glo "is_stretch") rfl), F_is_stretch.kp, F_is_stretch.bindsN fun _ _ _ _ _ _ us hl => match us, hl with | [_], _ => rfl, .nil⟩
  have c_Price : Y.Mak P w K mg base CX0 1 "Price" (He.ga K "Price") (sp_Rule_init K) [] := ⟨_, fd_Price_init, ["self", "first", "last", "worth"], [], He.mkr_ok (c.fact 19 (f := .mkr "Price") rfl), ok_Rule_init T F_Price_init , He.glo_ok X G (c.fact 82 (f := .glo "Price") rfl), F_Price_init.bindsN fun _ _ _ _ _ _ us hl => match us, hl with | [_, _, _, _], _ => rfl, .nil⟩
  have c_Come : Y.Mak P w K mg base CX0 1 "Come" (He.ga K "Come") (sp_Rule_init K) [] := ⟨_, fd_Come_init, ["self", "first", "last", "worth"], [], He.mkr_ok (c.fact 20 (f := .mkr "Come") rfl), ok_Rule_init T F_Come_init , He.glo_ok X G (c.fact 76 (f := .glo "Come") rfl), F_Come_init.bindsN fun _ _ _ _ _ _ us hl => match us, hl with | [_, _, _, _], _ => rfl, .nil⟩
  have c_Go : Y.Mak P w K mg base CX0 1 "Go" (He.ga K "Go") (sp_Rule_init K) [] := ⟨_, fd_Go_init, ["self", "first", "last", "worth"], [], He.mkr_ok (c.fact 21 (f := .mkr "Go") rfl), ok_Rule_init T F_Go_init , He.glo_ok X G (c.fact 79 (f := .glo "Go") rfl), F_Go_init.bindsN fun _ _ _ _ _ _ us hl => match us, hl with | [_, _, _, _], _ => rfl, .nil⟩
  have c_Least : Y.Mak P w K mg base CX0 1 "Least" (He.ga K "Least") (sp_Rule_init K) [] := ⟨_, fd_Least_init, ["self", "first", "last", "worth"], [], He.mkr_ok (c.fact 22 (f := .mkr "Least") rfl), ok_Rule_init T F_Least_init , He.glo_ok X G (c.fact 80 (f := .glo "Least") rfl), F_Least_init.bindsN fun _ _ _ _ _ _ us hl => match us, hl with | [_, _, _, _], _ => rfl, .nil⟩
  have c_Most : Y.Mak P w K mg base CX0 1 "Most" (He.ga K "Most") (sp_Rule_init K) [] := ⟨_, fd_Most_init, ["self", "first", "last", "worth"], [], He.mkr_ok (c.fact 23 (f := .mkr "Most") rfl), ok_Rule_init T F_Most_init , He.glo_ok X G (c.fact 81 (f := .glo "Most") rfl), F_Most_init.bindsN fun _ _ _ _ _ _ us hl => match us, hl with | [_, _, _, _], _ => rfl, .nil⟩
  have c_Deal : Y.Mak P w K mg base CX0 1 "Deal" (He.ga K "Deal") (sp_Rule_init K) [] := ⟨_, fd_Deal_init, ["self", "first", "last", "worth"], [], He.mkr_ok (c.fact 24 (f := .mkr "Deal") rfl), ok_Rule_init T F_Deal_init , He.glo_ok X G (c.fact 77 (f := .glo "Deal") rfl), F_Deal_init.bindsN fun _ _ _ _ _ _ us hl => match us, hl with | [_, _, _, _], _ => rfl, .nil⟩
  have c_Fee : Y.Mak P w K mg base CX0 1 "Fee" (He.ga K "Fee") (sp_Rule_init K) [] := ⟨_, fd_Fee_init, ["self", "first", "last", "worth"], [], He.mkr_ok (c.fact 25 (f := .mkr "Fee") rfl), ok_Rule_init T F_Fee_init , He.glo_ok X G (c.fact 78 (f := .glo "Fee") rfl), F_Fee_init.bindsN fun _ _ _ _ _ _ us hl => match us, hl with | [_, _, _, _], _ => rfl, .nil⟩
  have c_made : Y.Cal P w K mg base CX0 3 "made" (sp_made K) [] := ⟨_, fd_made, ["word", "first", "last", "worth"], [], ok_made T F_made c_Price c_Come c_Go c_Least c_Most c_Deal c_Fee, He.glo_ok X G (c.fact 26 (f := .glo "made") rfl), F_made.kp, F_made.bindsN fun _ _ _ _ _ _ us hl => match us, hl with | [_, _, _, _], _ => rfl, .nil⟩
  have c_is_coins : Y.Cal P w K mg base CX0 2 "is_coins" (sp_is_coins K) [] := ⟨_, fd_is_coins, ["thing"], [], ok_is_coins T F_is_coins c_is_whole, He.glo_ok X G (c.fact 27 (f := .glo "is_coins") rfl), F_is_coins.kp, F_is_coins.bindsN fun _ _ _ _ _ _ us hl => match us, hl with | [_], _ => rfl, .nil⟩
  have c_Price_fits : Y.Met P w K mg base CX0 3 (He.ga K "Price") "fits" (sp_Price_fits K) [] := ⟨_, fd_Price_fits, ["self"], [], He.cls_ok (c.fact 28 (f := .cls "Price") rfl), He.meth_ok (c.fact 29 (f := .meth "Price" "fits") rfl), ok_Price_fits T F_Price_fits c_is_coins, F_Price_fits.bindsN fun _ _ _ _ _ _ us hl => match us, hl with | [_], _ => rfl, .nil⟩
  have c_Come_fits : Y.Met P w K mg base CX0 1 (He.ga K "Come") "fits" (sp_Come_fits K) [] := ⟨_, fd_Come_fits, ["self"], [], He.cls_ok (c.fact 30 (f := .cls "Come") rfl), He.meth_ok (c.fact 31 (f := .meth "Come" "fits") rfl), ok_Come_fits T F_Come_fits , F_Come_fits.bindsN fun _ _ _ _ _ _ us hl => match us, hl with | [_], _ => rfl, .nil⟩
  have c_Go_fits : Y.Met P w K mg base CX0 1 (He.ga K "Go") "fits" (sp_Go_fits K) [] := ⟨_, fd_Go_fits, ["self"], [], He.cls_ok (c.fact 32 (f := .cls "Go") rfl), He.meth_ok (c.fact 33 (f := .meth "Go" "fits") rfl), ok_Go_fits T F_Go_fits , F_Go_fits.bindsN fun _ _ _ _ _ _ us hl => match us, hl with | [_], _ => rfl, .nil⟩
  have c_is_nights : Y.Cal P w K mg base CX0 2 "is_nights" (sp_is_nights K) [] := ⟨_, fd_is_nights, ["thing"], [], ok_is_nights T F_is_nights c_is_whole, He.glo_ok X G (c.fact 34 (f := .glo "is_nights") rfl), F_is_nights.kp, F_is_nights.bindsN fun _ _ _ _ _ _ us hl => match us, hl with | [_], _ => rfl, .nil⟩
  have c_Least_fits : Y.Met P w K mg base CX0 3 (He.ga K "Least") "fits" (sp_Least_fits K) [] := ⟨_, fd_Least_fits, ["self"], [], He.cls_ok (c.fact 35 (f := .cls "Least") rfl), He.meth_ok (c.fact 36 (f := .meth "Least" "fits") rfl), ok_Least_fits T F_Least_fits c_is_nights, F_Least_fits.bindsN fun _ _ _ _ _ _ us hl => match us, hl with | [_], _ => rfl, .nil⟩
  have c_Most_fits : Y.Met P w K mg base CX0 3 (He.ga K "Most") "fits" (sp_Most_fits K) [] := ⟨_, fd_Most_fits, ["self"], [], He.cls_ok (c.fact 37 (f := .cls "Most") rfl), He.meth_ok (c.fact 38 (f := .meth "Most" "fits") rfl), ok_Most_fits T F_Most_fits c_is_nights, F_Most_fits.bindsN fun _ _ _ _ _ _ us hl => match us, hl with | [_], _ => rfl, .nil⟩
  have c_Deal_fits : Y.Met P w K mg base CX0 3 (He.ga K "Deal") "fits" (sp_Deal_fits K) [] := ⟨_, fd_Deal_fits, ["self"], [], He.cls_ok (c.fact 39 (f := .cls "Deal") rfl), He.meth_ok (c.fact 40 (f := .meth "Deal" "fits") rfl), ok_Deal_fits T F_Deal_fits c_is_nights c_is_whole, F_Deal_fits.bindsN fun _ _ _ _ _ _ us hl => match us, hl with | [_], _ => rfl, .nil⟩
  have c_Fee_fits : Y.Met P w K mg base CX0 3 (He.ga K "Fee") "fits" (sp_Fee_fits K) [] := ⟨_, fd_Fee_fits, ["self"], [], He.cls_ok (c.fact 41 (f := .cls "Fee") rfl), He.meth_ok (c.fact 42 (f := .meth "Fee" "fits") rfl), ok_Fee_fits T F_Fee_fits c_is_coins, F_Fee_fits.bindsN fun _ _ _ _ _ _ us hl => match us, hl with | [_], _ => rfl, .nil⟩
  have c_rule_of : Y.Cal P w K mg base CX0 5 "rule_of" (sp_rule_of K) [] := ⟨_, fd_rule_of, ["thing"], [], ok_rule_of T F_rule_of c_is_stretch c_made c_Price_fits c_Come_fits c_Go_fits c_Least_fits c_Most_fits c_Deal_fits c_Fee_fits, He.glo_ok X G (c.fact 43 (f := .glo "rule_of") rfl), F_rule_of.kp, F_rule_of.bindsN fun _ _ _ _ _ _ us hl => match us, hl with | [_], _ => rfl, .nil⟩
  have c_Price_word : Y.Met P w K mg base CX0 1 (He.ga K "Price") "word" (sp_Price_word K) [] := ⟨_, fd_Price_word, ["self"], [], He.cls_ok (c.fact 28 (f := .cls "Price") rfl), He.meth_ok (c.fact 44 (f := .meth "Price" "word") rfl), ok_Price_word T F_Price_word , F_Price_word.bindsN fun _ _ _ _ _ _ us hl => match us, hl with | [_], _ => rfl, .nil⟩
  have c_Come_word : Y.Met P w K mg base CX0 1 (He.ga K "Come") "word" (sp_Come_word K) [] := ⟨_, fd_Come_word, ["self"], [], He.cls_ok (c.fact 30 (f := .cls "Come") rfl), He.meth_ok (c.fact 45 (f := .meth "Come" "word") rfl), ok_Come_word T F_Come_word , F_Come_word.bindsN fun _ _ _ _ _ _ us hl => match us, hl with | [_], _ => rfl, .nil⟩
  have c_Go_word : Y.Met P w K mg base CX0 1 (He.ga K "Go") "word" (sp_Go_word K) [] := ⟨_, fd_Go_word, ["self"], [], He.cls_ok (c.fact 32 (f := .cls "Go") rfl), He.meth_ok (c.fact 46 (f := .meth "Go" "word") rfl), ok_Go_word T F_Go_word , F_Go_word.bindsN fun _ _ _ _ _ _ us hl => match us, hl with | [_], _ => rfl, .nil⟩
  have c_Least_word : Y.Met P w K mg base CX0 1 (He.ga K "Least") "word" (sp_Least_word K) [] := ⟨_, fd_Least_word, ["self"], [], He.cls_ok (c.fact 35 (f := .cls "Least") rfl), He.meth_ok (c.fact 47 (f := .meth "Least" "word") rfl), ok_Least_word T F_Least_word , F_Least_word.bindsN fun _ _ _ _ _ _ us hl => match us, hl with | [_], _ => rfl, .nil⟩
  have c_Most_word : Y.Met P w K mg base CX0 1 (He.ga K "Most") "word" (sp_Most_word K) [] := ⟨_, fd_Most_word, ["self"], [], He.cls_ok (c.fact 37 (f := .cls "Most") rfl), He.meth_ok (c.fact 48 (f := .meth "Most" "word") rfl), ok_Most_word T F_Most_word , F_Most_word.bindsN fun _ _ _ _ _ _ us hl => match us, hl with | [_], _ => rfl, .nil⟩
  have c_Deal_word : Y.Met P w K mg base CX0 1 (He.ga K "Deal") "word" (sp_Deal_word K) [] := ⟨_, fd_Deal_word, ["self"], [], He.cls_ok (c.fact 39 (f := .cls "Deal") rfl), He.meth_ok (c.fact 49 (f := .meth "Deal" "word") rfl), ok_Deal_word T F_Deal_word , F_Deal_word.bindsN fun _ _ _ _ _ _ us hl => match us, hl with | [_], _ => rfl, .nil⟩
  have c_Fee_word : Y.Met P w K mg base CX0 1 (He.ga K "Fee") "word" (sp_Fee_word K) [] := ⟨_, fd_Fee_word, ["self"], [], He.cls_ok (c.fact 41 (f := .cls "Fee") rfl), He.meth_ok (c.fact 50 (f := .meth "Fee" "word") rfl), ok_Fee_word T F_Fee_word , F_Fee_word.bindsN fun _ _ _ _ _ _ us hl => match us, hl with | [_], _ => rfl, .nil⟩
  have c_Price_told : Y.Met P w K mg base CX0 2 (He.ga K "Price") "told" (sp_Rule_told K) [] := ⟨_, fd_Price_told, ["self"], [], He.cls_ok (c.fact 28 (f := .cls "Price") rfl), He.meth_ok (c.fact 51 (f := .meth "Price" "told") rfl), ok_Rule_told T F_Price_told c_Price_word c_Come_word c_Go_word c_Least_word c_Most_word c_Deal_word c_Fee_word, F_Price_told.bindsN fun _ _ _ _ _ _ us hl => match us, hl with | [_], _ => rfl, .nil⟩
  have c_Come_told : Y.Met P w K mg base CX0 2 (He.ga K "Come") "told" (sp_Rule_told K) [] := ⟨_, fd_Come_told, ["self"], [], He.cls_ok (c.fact 30 (f := .cls "Come") rfl), He.meth_ok (c.fact 52 (f := .meth "Come" "told") rfl), ok_Rule_told T F_Come_told c_Price_word c_Come_word c_Go_word c_Least_word c_Most_word c_Deal_word c_Fee_word, F_Come_told.bindsN fun _ _ _ _ _ _ us hl => match us, hl with | [_], _ => rfl, .nil⟩
  have c_Go_told : Y.Met P w K mg base CX0 2 (He.ga K "Go") "told" (sp_Rule_told K) [] := ⟨_, fd_Go_told, ["self"], [], He.cls_ok (c.fact 32 (f := .cls "Go") rfl), He.meth_ok (c.fact 53 (f := .meth "Go" "told") rfl), ok_Rule_told T F_Go_told c_Price_word c_Come_word c_Go_word c_Least_word c_Most_word c_Deal_word c_Fee_word, F_Go_told.bindsN fun _ _ _ _ _ _ us hl => match us, hl with | [_], _ => rfl, .nil⟩
  have c_Least_told : Y.Met P w K mg base CX0 2 (He.ga K "Least") "told" (sp_Rule_told K) [] := ⟨_, fd_Least_told, ["self"], [], He.cls_ok (c.fact 35 (f := .cls "Least") rfl), He.meth_ok (c.fact 54 (f := .meth "Least" "told") rfl), ok_Rule_told T F_Least_told c_Price_word c_Come_word c_Go_word c_Least_word c_Most_word c_Deal_word c_Fee_word, F_Least_told.bindsN fun _ _ _ _ _ _ us hl => match us, hl with | [_], _ => rfl, .nil⟩
  have c_Most_told : Y.Met P w K mg base CX0 2 (He.ga K "Most") "told" (sp_Rule_told K) [] := ⟨_, fd_Most_told, ["self"], [], He.cls_ok (c.fact 37 (f := .cls "Most") rfl), He.meth_ok (c.fact 55 (f := .meth "Most" "told") rfl), ok_Rule_told T F_Most_told c_Price_word c_Come_word c_Go_word c_Least_word c_Most_word c_Deal_word c_Fee_word, F_Most_told.bindsN fun _ _ _ _ _ _ us hl => match us, hl with | [_], _ => rfl, .nil⟩
  have c_Deal_told : Y.Met P w K mg base CX0 2 (He.ga K "Deal") "told" (sp_Rule_told K) [] := ⟨_, fd_Deal_told, ["self"], [], He.cls_ok (c.fact 39 (f := .cls "Deal") rfl), He.meth_ok (c.fact 56 (f := .meth "Deal" "told") rfl), ok_Rule_told T F_Deal_told c_Price_word c_Come_word c_Go_word c_Least_word c_Most_word c_Deal_word c_Fee_word, F_Deal_told.bindsN fun _ _ _ _ _ _ us hl => match us, hl with | [_], _ => rfl, .nil⟩
  have c_Fee_told : Y.Met P w K mg base CX0 2 (He.ga K "Fee") "told" (sp_Rule_told K) [] := ⟨_, fd_Fee_told, ["self"], [], He.cls_ok (c.fact 41 (f := .cls "Fee") rfl), He.meth_ok (c.fact 57 (f := .meth "Fee" "told") rfl), ok_Rule_told T F_Fee_told c_Price_word c_Come_word c_Go_word c_Least_word c_Most_word c_Deal_word c_Fee_word, F_Fee_told.bindsN fun _ _ _ _ _ _ us hl => match us, hl with | [_], _ => rfl, .nil⟩
  have c_rule_by : Y.Cal P w K mg base CX0 6 "rule_by" (sp_rule_by K) [] := ⟨_, fd_rule_by, ["text"], [], ok_rule_by T F_rule_by c_number_by c_worths_by c_rule_of c_rule_text c_Price_told c_Come_told c_Go_told c_Least_told c_Most_told c_Deal_told c_Fee_told, He.glo_ok X G (c.fact 58 (f := .glo "rule_by") rfl), F_rule_by.kp, F_rule_by.bindsN fun _ _ _ _ _ _ us hl => match us, hl with | [_], _ => rfl, .nil⟩
  have c_Lright : Y.Cal P w K mg base CX0 7 "_law_right" (sp_Lright K) [] := ⟨_, fd_Lright, ["_law_text"], [], ok_Lright T F_Lright c_Ldue c_rule_by, He.glo_ok X G (c.fact 59 (f := .glo "_law_right") rfl), F_Lright.kp, F_Lright.bindsN fun _ _ _ _ _ _ us hl => match us, hl with | [_], _ => rfl, .nil⟩
  exact ok_law T F_law c_Lbegin c_rule_text c_Lrule c_Ltake c_Lodd c_Lbent c_Lright
end Y
theorem PySem.Challenge.cw_stayprice_k22_texts_of_no_rule_holds : PySem.Challenge.rw_stayprice_k22_texts_of_no_rule.Holds :=
  Y.early Y.sp_law (fun K m0 H a ns hl _ hS => by
    exact ⟨_, rfl, m0, a, ns, rfl, hS, hl, fun _ => rfl⟩) Y.facts
