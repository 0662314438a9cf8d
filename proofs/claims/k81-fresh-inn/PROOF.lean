import PyProof.Rows.All
import Wide.All
import OpenK.AllK
import Wide.FinOn
import HandS.Head0
import HandS.Head1
import HandS.Head2
import HandS.HeadEnd
import HandS.HeadHook1
import HandS.HeadHook2
import HandS.HeadHook3
import HandS.HeadHook4
import HandS.ExcInit
import KE.KTryMore
import OpenK.KCls
import HandS.Words
import KE.KStateDown
import HandS.ForMost
import HandS.ForExc
import HandS.Wide
import HandS.Conv
import HandS.IsInst
import HandS.Defaults
import HandS.Codes
import HandS.Flow
import PyProof.ReprRoads
import PyProof.EqLayable
import HandS.SortRule
import HandS.Walk
import HandS.SetFor
import HandS.SetKeys
import HandS.Dict
import HandS.ExcOwn
import HandS.TryOnly
import HandS.WordsExc
import KE.KExcIs
import KE.KIsAll
import KE.DataCmp
import KE.SortData
import KE.DatumOrd
import HandS.SortKw
import HandS.TupSets
import HandS.ListItems
import HandS.MapObj
import HandS.SortInts
import PyProof.ZipIter
import KE.KTurns
import HandS.More
import HandS.Text
import HandS.FStr
import PySem.Challenge.RW_stayprice_k81_a_fresh_inn
set_option Elab.async false
set_option linter.all false
set_option maxRecDepth 100000
set_option maxHeartbeats 4000000
/-! YH: what is told of the classes at the head. -/
namespace Y
open PySem PySem.Spec PyProof.Rows L2
def ruleCls : List Str := ["Price", "Come", "Go", "Least", "Most", "Deal", "Fee"]
def wordsL : List Str := ["price", "come", "go", "least", "most", "deal", "fee"]
def isiB (K : PySem.W.Frag) (x y : Str) (b : Bool) : Bool := decide (PySem.W.kitOne K (.ref (He.ga K x)) (.ref (He.ga K y)) = some b)
def tyB (K : PySem.W.Frag) (C : Addr) : Bool := He.eqO (PySem.W.findIn K (.ref C) "__class__") (some (some (.builtin "object.__class__"))) && (He.eqO (PySem.W.specialIn K (.builtin "object.__class__") "__get__") (some (some (.builtin "getset_descriptor.__get__"))) && (decide (PySem.W.takesIn K (.builtin "object.__class__") = some true) && decide (PySem.W.mroIn K C (.type "object") = some true)))
/-- what the rules' classes are, told of K -/
def exRules (K : PySem.W.Frag) : Bool := (ruleCls.all fun x => (He.Fa.cls x).ok K && ((["first", "last", "worth"] : List Str).all (fun f => (He.Fa.noat x f).ok K) && (tyB K (He.ga K x) && isiB K x "Rule" true))) &&
  ((ruleCls.all fun x => ruleCls.all fun y => isiB K x y (decide (x = y))) && He.tupB K "WORDS" (wordsL.map He.Dv.str))
def exBook (K : PySem.W.Frag) : Bool := (He.Fa.cls "Book").ok K && ((["kept", "newest"] : List Str).all (fun f => (He.Fa.noat "Book" f).ok K) && (tyB K (He.ga K "Book") && isiB K "Book" "Book" true))
def exInn (K : PySem.W.Frag) : Bool := (He.Fa.cls "Inn").ok K && (["many", "shelf", "taken", "coming", "past"] : List Str).all fun f => (He.Fa.noat "Inn" f).ok K
def exFull (K : PySem.W.Frag) : Bool := (He.Fa.cls "FullBook").ok K && (["beneath", "nights"] : List Str).all fun f => (He.Fa.noat "FullBook" f).ok K
/-! errors -/
/-- the class x stands under y -/
def subE (x y : Str) : Bool := decide (x = y) || decide (y = "StayError")
/-- what is told of any error's class -/
def errB (K : PySem.W.Frag) (x : Str) : Bool := decide (PySem.W.findIn K (.ref (He.ga K x)) "__getattribute__" = some (some (.builtin "BaseException.__getattribute__"))) && (decide (PySem.W.findIn K (.ref (He.ga K x)) "__getattr__" = some none) &&
  (decide (PySem.W.subIn K (.ref (He.ga K x)) (.type "BaseException") = some true) && (PySem.W.hasDictIn K (He.ga K x) && (tyB K (He.ga K x) && (decide (PySem.W.typeIn K (.ref (He.ga K x)) = some (.type "type")) && (PySem.W.keepIn K (.ref (He.ga K x)) && PySem.W.isClsIn K (He.ga K x)))))))
/-- the errors L, and StayError: which stands under which -/
def exErrs (L : List Str) (K : PySem.W.Frag) : Bool := L.all fun x => errB K x && (decide (PySem.W.kitOne K (.ref (He.ga K x)) (.type "ValueError") = some true) &&
  ((("StayError" : Str) :: L).all fun y => (He.Fa.exm x y (subE x y)).ok K && isiB K x y (subE x y)))
/-- an error's class without own __init__ -/
def exBare (x : Str) (K : PySem.W.Frag) : Bool := PySem.W.excIn K (He.ga K x) He.veBase "ValueError.__new__" && errB K x
def oexB (K : PySem.W.Frag) (C : Addr) : Bool := match K.lookup C with
  | some ⟨.type "type", _, .cls cd, sl⟩ => (match cd.mro, sl.toList with
    | .ref C' :: bm, [_, _, _, _, some (.builtin n), _] => C' == C && (n == "ValueError.__new__" && (!cd.hasDel && (cd.hasDict && PySem.HandSPX.refsVE bm)))
    | _, _ => false)
  | _ => false
/-- StayError.__init__ is ValueError's -/
def exStay (K : PySem.W.Frag) : Bool := PySem.W.readsIn K (He.ga K "StayError") (.type "type") && (decide (PySem.W.specialIn K (.ref (He.ga K "StayError")) "__getattribute__" = some (some (.builtin "type.__getattribute__"))) &&
  (match PySem.W.findCls K (.ref (He.ga K "StayError")) (.type "type") "__init__" with
  | some (.val (.builtin n)) => decide (n = "ValueError.__init__")
  | _ => false))
/-- an error's class whose __init__ calls StayError's and writes the field f -/
def exInit (x f : Str) (K : PySem.W.Frag) : Bool := exStay K && (oexB K (He.ga K x) && (decide (PySem.W.findIn K (.ref (He.ga K x)) "__setattr__" = some (some (.builtin "object.__setattr__"))) && (decide (PySem.W.findIn K (.ref (He.ga K x)) f = some none) && errB K x)))
def exHind (K : PySem.W.Frag) : Bool := He.tupB K "HINDERING" (((["price", "come", "go", "least", "most"] : List Str)).map He.Dv.str)
/-! the head's hook: what the names reach, and the table of statics (a class's attributes are looked up there) -/
abbrev AlY : Type := He.AlD × Bool
def asY (g : Addr → Option Obj) (n : Nat) : List Addr := He.asD g n ++ [cStatics]
def obsY (n : Nat) (fa : List He.Fa) (fn : List He.DefD) (ex : PySem.W.Frag → Bool) (g : Addr → Option Obj) : AlY := (He.obsD fa fn (He.frG g (asY g n)), ex (He.frG g (asY g n)))
def hookY (n : Nat) (fa : List He.Fa) (fn : List He.DefD) (ex : PySem.W.Frag → Bool) : PySem.W.Hook where
  α := AlY
  obs := fun s => obsY n fa fn ex s.heap.get?
  val := fun _ => (He.valD fn, true)
  says := fun _ h => ∃ K : PySem.W.Frag, K.In h ∧ He.SaysD fa fn K ∧ ex K = true
  of := fun _ _ e => ⟨_, He.frG_in, congrArg (fun z : AlY => z.1) e, congrArg (fun z : AlY => z.2) e⟩
  keeps := fun _ _ _ ⟨K, hK, c⟩ k => ⟨K, PySem.W.Frag.In.keeps hK k, c⟩
theorem obsY_eq {n : Nat} {fa : List He.Fa} {fn : List He.DefD} {ex : PySem.W.Frag → Bool} {g : Addr → Option Obj} {s : Shared} (h : ∀ a, g a = s.heap.get? a) : obsY n fa fn ex g = (hookY n fa fn ex).obs s := by
  have e : g = s.heap.get? := funext h
  rw [e] <;> rfl
/-! the run's equation, by parts: each a check of its own -/
open HandSHeadRun in
def RunA (r : PySem.W.OpenRow) (q : Program) (M : Nat) (loose : List PySem.Str) (w : World) : Prop :=
  ∀ os : OsState, (endF (stepQ (denQ tabQ) r.prog w) M r.prog w os).map (fun s => (looksF r.prog (PySem.W.boot_heap w.params) s.abs, HandSHeadRun.seenQ q loose (PySem.importedModules r.prog.main.body) (fun s => PySem.W.xlAt q [] s && PySem.W.recOk r.toRowW.records s) s.abs)) = some (true, PySem.W.openGood q loose)
abbrev KT (n : Nat) (s : PySem.W.SharedT) : PySem.W.Frag := He.frG (HandSHeadRun.getT s) (asY (HandSHeadRun.getT s) n)
open HandSHeadRun in
def RunB (r : PySem.W.OpenRow) (M : Nat) (n : Nat) (fa : List He.Fa) (ex : PySem.W.Frag → Bool) (w : World) : Prop :=
  ∀ os : OsState, (endF (stepQ (denQ tabQ) r.prog w) M r.prog w os).map (fun s => (fa.all fun f => f.ok (KT n s)) && ex (KT n s)) = some true
open HandSHeadRun in
def RunC (r : PySem.W.OpenRow) (M : Nat) (n : Nat) (fn : List He.DefD) (w : World) : Prop :=
  ∀ os : OsState, (endF (stepQ (denQ tabQ) r.prog w) M r.prog w os).map (fun s => (fn.all fun d => d.ok (KT n s), fn.map fun d => He.fnW (KT n s) d.at_)) = some (true, fn.map He.DefD.val)
theorem run_join {r : PySem.W.OpenRow} {q : Program} {M n : Nat} {loose : List PySem.Str} {fa : List He.Fa} {fn : List He.DefD} {ex : PySem.W.Frag → Bool} {w : World} (ra : RunA r q M loose w) (rb : RunB r M n fa ex w) (rc : RunC r M n fn w) :
    HandSHeadRun.RunEq r q (hookY n fa fn ex) (fun s => obsY n fa fn ex (HandSHeadRun.getT s)) M loose w := by
  intro os
  obtain ⟨s, hs, e1⟩ := Option.map_eq_some_iff.mp (ra os)
  obtain ⟨s2, hs2, e2⟩ := Option.map_eq_some_iff.mp (rb os)
  obtain ⟨s3, hs3, e3⟩ := Option.map_eq_some_iff.mp (rc os)
  rw [hs] at hs2 hs3
  cases hs2
  cases hs3
  rw [hs]
  obtain ⟨a1, a2⟩ := Prod.mk.inj e1
  obtain ⟨b1, b2⟩ := Bool.and_eq_true_iff.mp e2
  obtain ⟨c1, c2⟩ := Prod.mk.inj e3
  show some (_, _, (He.obsD fa fn (KT n s), ex (KT n s))) = some (true, _, (He.valD fn, true))
  unfold He.obsD He.valD
  rw [a1, a2, b1, b2, c1, c2]
  rfl
end Y
namespace YHd
open PySem PySem.Spec PyProof.Rows L2 Y
def top (i : Nat) : Stmt := PySem.Challenge.pw_stayprice_k81_a_fresh_inn.main.body.getD i (.Pass ⟨0, 0, 0, 0⟩)
abbrev s_Lbegin : Stmt := top 62
abbrev s_Ltake : Stmt := top 63
abbrev s_Lnames : Stmt := top 68
abbrev s_Lcoins : Stmt := top 64
abbrev s_Lworth : Stmt := top 65
abbrev s_Lrule : Stmt := top 66
abbrev s_Lsome : Stmt := top 69
abbrev s_is_whole : Stmt := top 3
abbrev s_is_day : Stmt := top 4
abbrev s_is_two_days : Stmt := top 5
abbrev s_is_stretch : Stmt := top 6
abbrev s_Rule_init : Stmt := inClass (top 22) 0
abbrev s_made : Stmt := top 30
abbrev s_is_coins : Stmt := top 20
abbrev s_Price_fits : Stmt := inClass (top 23) 1
abbrev s_Come_fits : Stmt := inClass (top 24) 1
abbrev s_Go_fits : Stmt := inClass (top 25) 1
abbrev s_is_nights : Stmt := top 21
abbrev s_Least_fits : Stmt := inClass (top 26) 1
abbrev s_Most_fits : Stmt := inClass (top 27) 1
abbrev s_Deal_fits : Stmt := inClass (top 28) 1
abbrev s_Fee_fits : Stmt := inClass (top 29) 1
abbrev s_rule_of : Stmt := top 31
abbrev s_Price_word : Stmt := inClass (top 23) 0
abbrev s_Come_word : Stmt := inClass (top 24) 0
abbrev s_Go_word : Stmt := inClass (top 25) 0
abbrev s_Least_word : Stmt := inClass (top 26) 0
abbrev s_Most_word : Stmt := inClass (top 27) 0
abbrev s_Deal_word : Stmt := inClass (top 28) 0
abbrev s_Fee_word : Stmt := inClass (top 29) 0
abbrev s_Book_init : Stmt := inClass (top 35) 0
abbrev s_Inn_init : Stmt := inClass (top 59) 0
abbrev s_NoRule_init : Stmt := inClass (top 10) 0
abbrev s_Linn_told : Stmt := top 73
abbrev s_Linn_refused : Stmt := top 74
abbrev s_dealt : Stmt := top 51
abbrev s_Inn_rooms : Stmt := inClass (top 59) 12
abbrev s_nights_of : Stmt := top 7
abbrev s_Inn_full : Stmt := inClass (top 59) 3
abbrev s_Inn_standing : Stmt := inClass (top 59) 11
abbrev s_Inn_need_name : Stmt := inClass (top 59) 2
abbrev s_Rule_told : Stmt := inClass (top 22) 4
abbrev s_Book_rules : Stmt := inClass (top 35) 1
abbrev s_Inn_rules_of : Stmt := inClass (top 59) 13
abbrev s_Inn_keep : Stmt := inClass (top 59) 1
abbrev s_Inn_give_back : Stmt := inClass (top 59) 7
abbrev s_laid : Stmt := top 36
abbrev s_Inn_lay : Stmt := inClass (top 59) 8
abbrev s_Inn_tidy : Stmt := inClass (top 59) 9
abbrev s_Inn_undo : Stmt := inClass (top 59) 10
abbrev s_Ldone : Stmt := top 67
abbrev s_Lis_fresh : Stmt := top 71
abbrev s_Lno_name : Stmt := top 70
abbrev s_Llaid_right : Stmt := top 72
abbrev s_law : Stmt := top 75
/-! the head: facts by names, the run of the top -/
def d_Lbegin : He.DefD := ⟨("_law_begin", none), "_law_begin", "_law_begin", defArgs s_Lbegin, defBody s_Lbegin, defScope s_Lbegin, [], []⟩
def d_Ltake : He.DefD := ⟨("_law_take", none), "_law_take", "_law_take", defArgs s_Ltake, defBody s_Ltake, defScope s_Ltake, [], []⟩
def d_Lnames : He.DefD := ⟨("_law_names", none), "_law_names", "_law_names", defArgs s_Lnames, defBody s_Lnames, defScope s_Lnames, [], []⟩
def d_Lcoins : He.DefD := ⟨("_law_coins", none), "_law_coins", "_law_coins", defArgs s_Lcoins, defBody s_Lcoins, defScope s_Lcoins, [], []⟩
def d_Lworth : He.DefD := ⟨("_law_worth", none), "_law_worth", "_law_worth", defArgs s_Lworth, defBody s_Lworth, defScope s_Lworth, [], []⟩
def d_Lrule : He.DefD := ⟨("_law_rule", none), "_law_rule", "_law_rule", defArgs s_Lrule, defBody s_Lrule, defScope s_Lrule, [], []⟩
def d_Lsome : He.DefD := ⟨("_law_some", none), "_law_some", "_law_some", defArgs s_Lsome, defBody s_Lsome, defScope s_Lsome, [], []⟩
def d_is_whole : He.DefD := ⟨("is_whole", none), "is_whole", "is_whole", defArgs s_is_whole, defBody s_is_whole, defScope s_is_whole, [], []⟩
def d_is_day : He.DefD := ⟨("is_day", none), "is_day", "is_day", defArgs s_is_day, defBody s_is_day, defScope s_is_day, [], []⟩
def d_is_two_days : He.DefD := ⟨("is_two_days", none), "is_two_days", "is_two_days", defArgs s_is_two_days, defBody s_is_two_days, defScope s_is_two_days, [], []⟩
def d_is_stretch : He.DefD := ⟨("is_stretch", none), "is_stretch", "is_stretch", defArgs s_is_stretch, defBody s_is_stretch, defScope s_is_stretch, [], []⟩
def d_Price_init : He.DefD := ⟨("Price", some "__init__"), "__init__", "Rule.__init__", defArgs s_Rule_init, defBody s_Rule_init, defScope s_Rule_init, [], []⟩
def d_Come_init : He.DefD := ⟨("Come", some "__init__"), "__init__", "Rule.__init__", defArgs s_Rule_init, defBody s_Rule_init, defScope s_Rule_init, [], []⟩
def d_Go_init : He.DefD := ⟨("Go", some "__init__"), "__init__", "Rule.__init__", defArgs s_Rule_init, defBody s_Rule_init, defScope s_Rule_init, [], []⟩
def d_Least_init : He.DefD := ⟨("Least", some "__init__"), "__init__", "Rule.__init__", defArgs s_Rule_init, defBody s_Rule_init, defScope s_Rule_init, [], []⟩
def d_Most_init : He.DefD := ⟨("Most", some "__init__"), "__init__", "Rule.__init__", defArgs s_Rule_init, defBody s_Rule_init, defScope s_Rule_init, [], []⟩
def d_Deal_init : He.DefD := ⟨("Deal", some "__init__"), "__init__", "Rule.__init__", defArgs s_Rule_init, defBody s_Rule_init, defScope s_Rule_init, [], []⟩
def d_Fee_init : He.DefD := ⟨("Fee", some "__init__"), "__init__", "Rule.__init__", defArgs s_Rule_init, defBody s_Rule_init, defScope s_Rule_init, [], []⟩
def d_made : He.DefD := ⟨("made", none), "made", "made", defArgs s_made, defBody s_made, defScope s_made, [], []⟩
def d_is_coins : He.DefD := ⟨("is_coins", none), "is_coins", "is_coins", defArgs s_is_coins, defBody s_is_coins, defScope s_is_coins, [], []⟩
def d_Price_fits : He.DefD := ⟨("Price", some "fits"), "fits", "Price.fits", defArgs s_Price_fits, defBody s_Price_fits, defScope s_Price_fits, [], []⟩
def d_Come_fits : He.DefD := ⟨("Come", some "fits"), "fits", "Come.fits", defArgs s_Come_fits, defBody s_Come_fits, defScope s_Come_fits, [], []⟩
def d_Go_fits : He.DefD := ⟨("Go", some "fits"), "fits", "Go.fits", defArgs s_Go_fits, defBody s_Go_fits, defScope s_Go_fits, [], []⟩
def d_is_nights : He.DefD := ⟨("is_nights", none), "is_nights", "is_nights", defArgs s_is_nights, defBody s_is_nights, defScope s_is_nights, [], []⟩
def d_Least_fits : He.DefD := ⟨("Least", some "fits"), "fits", "Least.fits", defArgs s_Least_fits, defBody s_Least_fits, defScope s_Least_fits, [], []⟩
def d_Most_fits : He.DefD := ⟨("Most", some "fits"), "fits", "Most.fits", defArgs s_Most_fits, defBody s_Most_fits, defScope s_Most_fits, [], []⟩
def d_Deal_fits : He.DefD := ⟨("Deal", some "fits"), "fits", "Deal.fits", defArgs s_Deal_fits, defBody s_Deal_fits, defScope s_Deal_fits, [], []⟩
def d_Fee_fits : He.DefD := ⟨("Fee", some "fits"), "fits", "Fee.fits", defArgs s_Fee_fits, defBody s_Fee_fits, defScope s_Fee_fits, [], []⟩
def d_rule_of : He.DefD := ⟨("rule_of", none), "rule_of", "rule_of", defArgs s_rule_of, defBody s_rule_of, defScope s_rule_of, [], []⟩
def d_Price_word : He.DefD := ⟨("Price", some "word"), "word", "Price.word", defArgs s_Price_word, defBody s_Price_word, defScope s_Price_word, [], []⟩
def d_Come_word : He.DefD := ⟨("Come", some "word"), "word", "Come.word", defArgs s_Come_word, defBody s_Come_word, defScope s_Come_word, [], []⟩
def d_Go_word : He.DefD := ⟨("Go", some "word"), "word", "Go.word", defArgs s_Go_word, defBody s_Go_word, defScope s_Go_word, [], []⟩
def d_Least_word : He.DefD := ⟨("Least", some "word"), "word", "Least.word", defArgs s_Least_word, defBody s_Least_word, defScope s_Least_word, [], []⟩
def d_Most_word : He.DefD := ⟨("Most", some "word"), "word", "Most.word", defArgs s_Most_word, defBody s_Most_word, defScope s_Most_word, [], []⟩
def d_Deal_word : He.DefD := ⟨("Deal", some "word"), "word", "Deal.word", defArgs s_Deal_word, defBody s_Deal_word, defScope s_Deal_word, [], []⟩
def d_Fee_word : He.DefD := ⟨("Fee", some "word"), "word", "Fee.word", defArgs s_Fee_word, defBody s_Fee_word, defScope s_Fee_word, [], []⟩
def d_Book_init : He.DefD := ⟨("Book", some "__init__"), "__init__", "Book.__init__", defArgs s_Book_init, defBody s_Book_init, defScope s_Book_init, [.non], []⟩
def d_Inn_init : He.DefD := ⟨("Inn", some "__init__"), "__init__", "Inn.__init__", defArgs s_Inn_init, defBody s_Inn_init, defScope s_Inn_init, [], []⟩
def d_NoRule_init : He.DefD := ⟨("NoRule", some "__init__"), "__init__", "NoRule.__init__", defArgs s_NoRule_init, defBody s_NoRule_init, defScope s_NoRule_init, [], []⟩
def d_Linn_told : He.DefD := ⟨("_law_inn_told", none), "_law_inn_told", "_law_inn_told", defArgs s_Linn_told, defBody s_Linn_told, defScope s_Linn_told, [], []⟩
def d_Linn_refused : He.DefD := ⟨("_law_inn_refused", none), "_law_inn_refused", "_law_inn_refused", defArgs s_Linn_refused, defBody s_Linn_refused, defScope s_Linn_refused, [], []⟩
def d_dealt : He.DefD := ⟨("dealt", none), "dealt", "dealt", defArgs s_dealt, defBody s_dealt, defScope s_dealt, [], []⟩
def d_Inn_rooms : He.DefD := ⟨("Inn", some "rooms"), "rooms", "Inn.rooms", defArgs s_Inn_rooms, defBody s_Inn_rooms, defScope s_Inn_rooms, [], []⟩
def d_nights_of : He.DefD := ⟨("nights_of", none), "nights_of", "nights_of", defArgs s_nights_of, defBody s_nights_of, defScope s_nights_of, [], []⟩
def d_Inn_full : He.DefD := ⟨("Inn", some "full"), "full", "Inn.full", defArgs s_Inn_full, defBody s_Inn_full, defScope s_Inn_full, [], []⟩
def d_Inn_standing : He.DefD := ⟨("Inn", some "standing"), "standing", "Inn.standing", defArgs s_Inn_standing, defBody s_Inn_standing, defScope s_Inn_standing, [], []⟩
def d_Inn_need_name : He.DefD := ⟨("Inn", some "need_name"), "need_name", "Inn.need_name", defArgs s_Inn_need_name, defBody s_Inn_need_name, defScope s_Inn_need_name, [], []⟩
def d_Price_told : He.DefD := ⟨("Price", some "told"), "told", "Rule.told", defArgs s_Rule_told, defBody s_Rule_told, defScope s_Rule_told, [], []⟩
def d_Come_told : He.DefD := ⟨("Come", some "told"), "told", "Rule.told", defArgs s_Rule_told, defBody s_Rule_told, defScope s_Rule_told, [], []⟩
def d_Go_told : He.DefD := ⟨("Go", some "told"), "told", "Rule.told", defArgs s_Rule_told, defBody s_Rule_told, defScope s_Rule_told, [], []⟩
def d_Least_told : He.DefD := ⟨("Least", some "told"), "told", "Rule.told", defArgs s_Rule_told, defBody s_Rule_told, defScope s_Rule_told, [], []⟩
def d_Most_told : He.DefD := ⟨("Most", some "told"), "told", "Rule.told", defArgs s_Rule_told, defBody s_Rule_told, defScope s_Rule_told, [], []⟩
def d_Deal_told : He.DefD := ⟨("Deal", some "told"), "told", "Rule.told", defArgs s_Rule_told, defBody s_Rule_told, defScope s_Rule_told, [], []⟩
def d_Fee_told : He.DefD := ⟨("Fee", some "told"), "told", "Rule.told", defArgs s_Rule_told, defBody s_Rule_told, defScope s_Rule_told, [], []⟩
def d_Book_rules : He.DefD := ⟨("Book", some "rules"), "rules", "Book.rules", defArgs s_Book_rules, defBody s_Book_rules, defScope s_Book_rules, [], []⟩
def d_Inn_rules_of : He.DefD := ⟨("Inn", some "rules_of"), "rules_of", "Inn.rules_of", defArgs s_Inn_rules_of, defBody s_Inn_rules_of, defScope s_Inn_rules_of, [], []⟩
def d_Inn_keep : He.DefD := ⟨("Inn", some "keep"), "keep", "Inn.keep", defArgs s_Inn_keep, defBody s_Inn_keep, defScope s_Inn_keep, [], []⟩
def d_Inn_give_back : He.DefD := ⟨("Inn", some "give_back"), "give_back", "Inn.give_back", defArgs s_Inn_give_back, defBody s_Inn_give_back, defScope s_Inn_give_back, [], []⟩
def d_laid : He.DefD := ⟨("laid", none), "laid", "laid", defArgs s_laid, defBody s_laid, defScope s_laid, [], []⟩
def d_Inn_lay : He.DefD := ⟨("Inn", some "lay"), "lay", "Inn.lay", defArgs s_Inn_lay, defBody s_Inn_lay, defScope s_Inn_lay, [], []⟩
def d_Inn_tidy : He.DefD := ⟨("Inn", some "tidy"), "tidy", "Inn.tidy", defArgs s_Inn_tidy, defBody s_Inn_tidy, defScope s_Inn_tidy, [], []⟩
def d_Inn_undo : He.DefD := ⟨("Inn", some "undo"), "undo", "Inn.undo", defArgs s_Inn_undo, defBody s_Inn_undo, defScope s_Inn_undo, [], []⟩
def d_Ldone : He.DefD := ⟨("_law_done", none), "_law_done", "_law_done", defArgs s_Ldone, defBody s_Ldone, defScope s_Ldone, [], []⟩
def d_Lis_fresh : He.DefD := ⟨("_law_is_fresh", none), "_law_is_fresh", "_law_is_fresh", defArgs s_Lis_fresh, defBody s_Lis_fresh, defScope s_Lis_fresh, [], []⟩
def d_Lno_name : He.DefD := ⟨("_law_no_name", none), "_law_no_name", "_law_no_name", defArgs s_Lno_name, defBody s_Lno_name, defScope s_Lno_name, [], []⟩
def d_Llaid_right : He.DefD := ⟨("_law_laid_right", none), "_law_laid_right", "_law_laid_right", defArgs s_Llaid_right, defBody s_Llaid_right, defScope s_Llaid_right, [], []⟩
def d_law : He.DefD := ⟨("law", none), "law", "law", defArgs s_law, defBody s_law, defScope s_law, [], []⟩
def fn : List He.DefD := d_Lbegin :: d_Ltake :: d_Lnames :: d_Lcoins :: d_Lworth :: d_Lrule :: d_Lsome :: d_is_whole :: d_is_day :: d_is_two_days :: d_is_stretch :: d_Price_init :: d_Come_init :: d_Go_init :: d_Least_init :: d_Most_init :: d_Deal_init :: d_Fee_init :: d_made :: d_is_coins :: d_Price_fits :: d_Come_fits :: d_Go_fits :: d_is_nights :: d_Least_fits :: d_Most_fits :: d_Deal_fits :: d_Fee_fits :: d_rule_of :: d_Price_word :: d_Come_word :: d_Go_word :: d_Least_word :: d_Most_word :: d_Deal_word :: d_Fee_word :: d_Book_init :: d_Inn_init :: d_NoRule_init :: d_Linn_told :: d_Linn_refused :: d_dealt :: d_Inn_rooms :: d_nights_of :: d_Inn_full :: d_Inn_standing :: d_Inn_need_name :: d_Price_told :: d_Come_told :: d_Go_told :: d_Least_told :: d_Most_told :: d_Deal_told :: d_Fee_told :: d_Book_rules :: d_Inn_rules_of :: d_Inn_keep :: d_Inn_give_back :: d_laid :: d_Inn_lay :: d_Inn_tidy :: d_Inn_undo :: d_Ldone :: d_Lis_fresh :: d_Lno_name :: d_Llaid_right :: d_law :: []
def fa : List He.Fa := .glo "_law_begin" :: .glo "_law_take" :: .glo "_law_names" :: .glo "_law_coins" :: .glo "_law_worth" :: .glo "_law_rule" :: .glo "_law_some" :: .glo "is_whole" :: .glo "is_day" :: .glo "is_two_days" :: .glo "is_stretch" :: .mkr "Price" :: .mkr "Come" :: .mkr "Go" :: .mkr "Least" :: .mkr "Most" :: .mkr "Deal" :: .mkr "Fee" :: .glo "made" :: .glo "is_coins" :: .cls "Price" :: .meth "Price" "fits" :: .cls "Come" :: .meth "Come" "fits" :: .cls "Go" :: .meth "Go" "fits" :: .glo "is_nights" :: .cls "Least" :: .meth "Least" "fits" :: .cls "Most" :: .meth "Most" "fits" :: .cls "Deal" :: .meth "Deal" "fits" :: .cls "Fee" :: .meth "Fee" "fits" :: .glo "rule_of" :: .meth "Price" "word" :: .meth "Come" "word" :: .meth "Go" "word" :: .meth "Least" "word" :: .meth "Most" "word" :: .meth "Deal" "word" :: .meth "Fee" "word" :: .mkr "Book" :: .mkr "Inn" :: .glo "NoRule" :: .meth "NoRule" "__init__" :: .glo "_law_inn_told" :: .glo "_law_inn_refused" :: .glo "dealt" :: .cls "Inn" :: .meth "Inn" "rooms" :: .glo "nights_of" :: .meth "Inn" "full" :: .meth "Inn" "standing" :: .meth "Inn" "need_name" :: .meth "Price" "told" :: .meth "Come" "told" :: .meth "Go" "told" :: .meth "Least" "told" :: .meth "Most" "told" :: .meth "Deal" "told" :: .meth "Fee" "told" :: .cls "Book" :: .meth "Book" "rules" :: .meth "Inn" "rules_of" :: .meth "Inn" "keep" :: .meth "Inn" "give_back" :: .glo "laid" :: .meth "Inn" "lay" :: .meth "Inn" "tidy" :: .meth "Inn" "undo" :: .glo "_law_done" :: .glo "_law_is_fresh" :: .glo "_law_no_name" :: .glo "_law_laid_right" :: .glo "law" :: .free "ValueError" :: .free "bool" :: .free "dict" :: .free "enumerate" :: .free "int" :: .free "isinstance" :: .free "len" :: .free "list" :: .free "max" :: .free "min" :: .free "range" :: .free "sorted" :: .free "str" :: .free "tuple" :: .free "zip" :: .int "LAST_DAY" 1000000 :: .int "MOST_COINS" 1000000000000 :: .int "MOST_NIGHTS" 14 :: .int "MOST_RULES" 24 :: .glo "WORDS" :: .glo "Book" :: .glo "Come" :: .glo "Deal" :: .glo "Fee" :: .glo "Go" :: .glo "Inn" :: .glo "Least" :: .glo "Most" :: .glo "NoDeed" :: .glo "NoName" :: .glo "NoTaken" :: .glo "Off" :: .glo "Price" :: .glo "StayError" :: .glo "TooMany" :: []
def ex (K : PySem.W.Frag) : Bool := exRules K && exBook K && exErrs ["NoDeed", "NoName", "NoRule", "NoTaken", "NotSold", "Off", "TooMany"] K && exInit "NoRule" "number" K && exBare "TooMany" K && exBare "NoName" K && exBare "NoTaken" K && exBare "NoDeed" K && exInn K
abbrev AlH := AlY
abbrev R : PySem.W.OpenRow := PySem.W.OpenLaw.row PySem.Challenge.rw_stayprice_k81_a_fresh_inn
abbrev hk : PySem.W.Hook := hookY 5 fa fn ex
def ob (s : PySem.W.SharedT) : AlH := obsY 5 fa fn ex (HandSHeadRun.getT s)
theorem ob_eq (s : PySem.W.SharedT) : ob s = hk.obs s.abs := obsY_eq (HandSHeadRun.getT_eq s)
def loose : List PySem.Str := "LAST_DAY" :: "MOST_NIGHTS" :: "is_whole" :: "is_day" :: "is_two_days" :: "is_stretch" :: "nights_of" :: "StayError" :: "NoRule" :: "NotSold" :: "Off" :: "TooMany" :: "NoName" :: "NoTaken" :: "NoDeed" :: "WORDS" :: "MOST_COINS" :: "is_coins" :: "is_nights" :: "Rule" :: "Price" :: "Come" :: "Go" :: "Least" :: "Most" :: "Deal" :: "Fee" :: "made" :: "rule_of" :: "usual" :: "MOST_RULES" :: "Book" :: "laid" :: "marked" :: "bill" :: "can_be_had" :: "coins_of" :: "parts_from" :: "ways" :: "cut_by" :: "paper_by" :: "best" :: "best_cuts" :: "dealt" :: "bounds_of" :: "unlike" :: "tidied" :: "FullBook" :: "Inn" :: "_law_cell_at" :: "_law_begin" :: "_law_take" :: "_law_coins" :: "_law_worth" :: "_law_rule" :: "_law_done" :: "_law_names" :: "_law_some" :: "_law_no_name" :: "_law_is_fresh" :: "_law_laid_right" :: "_law_inn_told" :: "_law_inn_refused" :: []
theorem runA (w : World) : Y.RunA R (PySem.W.view R.prog [75]) 7500 loose w := by
  intro os
  kernel_rfl
theorem runB (w : World) : Y.RunB R 7500 5 fa ex w := by
  intro os
  kernel_rfl
theorem runC (w : World) : Y.RunC R 7500 5 fn w := by
  intro os
  kernel_rfl
theorem run (w : World) : HandSHeadRun.RunEq R (PySem.W.view R.prog [75]) hk ob 7500 loose w := Y.run_join (runA w) (runB w) (runC w)
end YHd
/-! Y0: short names of readings; promises by their number of arguments; heaps that grow; steps of a reading. -/
namespace Y
open PySem PySem.Spec PyProof.Rows L2

/-- nothing stands at p -/
def Fr (H : Hp) (p : Addr) : Prop := H p = none
/-! ### short names for the readings of operators and built-ins -/
abbrev rAdd : R2 := rI0 fun i j => .int (i + j)
abbrev rSub : R2 := rI0 fun i j => .int (i - j)
abbrev rMul : R2 := rI CMul fun i j => .int (i * j)
abbrev rPow : R2 := rI CPow fun i j => .int (i ^ j.toNat)
abbrev rMod : R2 := rI (fun _ j => 0 < j) fun i j => .int (i % j)
abbrev rDivW : R2 := rI CDivW fun i j => .int (i / j)
abbrev rLt : R2 := rI0 fun i j => .bl (decide (i < j))
abbrev rLe : R2 := rI0 fun i j => .bl (decide (i ≤ j))
abbrev rGt : R2 := rI0 fun i j => .bl (decide (j < i))
abbrev rGe : R2 := rI0 fun i j => .bl (decide (j ≤ i))
abbrev rIsN : R2 := fun x y H Q => y = .non ∧ Q (.bl (decide (x = .non))) H
abbrev rNotN : R2 := fun x y H Q => y = .non ∧ Q (.bl (!decide (x = .non))) H
abbrev rAddS : R2 := fun x y H Q => ∃ i j, x = .str i ∧ y = .str j ∧ i.length + j.length ≤ sizeLine ∧ Q (.str (i ++ j)) H
abbrev rNeg : V → Hp → VK → Prop := rU fun i => .int (-i)
abbrev rAbs : List V → Hp → VK → Prop := fun xs H Q => ∃ i, xs = [.int i] ∧ Q (.int (if i < 0 then -i else i)) H
abbrev rMax2 : List V → Hp → VK → Prop := fun xs H Q => ∃ i j, xs = [.int i, .int j] ∧ Q (.int (if j > i then j else i)) H
abbrev rMin2 : List V → Hp → VK → Prop := fun xs H Q => ∃ i j, xs = [.int i, .int j] ∧ Q (.int (if j < i then j else i)) H
abbrev rInt1 : List V → Hp → VK → Prop := fun xs H Q => (∃ i, xs = [.int i] ∧ Q (.int i) H) ∨ ∃ k, xs = [.bl k] ∧ Q (.int (if k then 1 else 0)) H
abbrev rLen (K : PySem.W.Frag) : List V → Hp → VK → Prop := fun xs H Q => ∃ p ys, xs = [.ref p] ∧ (SqL K H p ys ∨ SqT K H p ys) ∧ Q (.int ys.length) H
abbrev rLenS : List V → Hp → VK → Prop := fun xs H Q => ∃ z, xs = [.str z] ∧ z.length ≤ sizeLine ∧ Q (.int z.length) H
abbrev rLenA (K : PySem.W.Frag) : List V → Hp → VK → Prop := fun xs H Q => ∃ x n, xs = [x] ∧ LenV K x H n ∧ Q (.int n) H
abbrev rListOf (K : PySem.W.Frag) : List V → Hp → VK → Prop := fun xs H Q => ∃ p ys, xs = [.ref p] ∧ (SqL K H p ys ∨ SqT K H p ys) ∧ ∀ l, H l = none → Q (.ref l) (upd H l (.lst ys))
abbrev rTupOf (K : PySem.W.Frag) : List V → Hp → VK → Prop := fun xs H Q => ∃ p ys, xs = [.ref p] ∧ ((SqL K H p ys ∧ ∀ l, H l = none → Q (.ref l) (upd H l (.tup ys))) ∨ (SqT K H p ys ∧ Q (.ref p) H))
abbrev rInsert : V → List V → Hp → VK → Prop := fun x vs H Q => ∃ (l : Addr) (xs : List V) (i : Int) (y : V), x = .ref l ∧ vs = [.int i, y] ∧ H l = some (.lst xs) ∧ xs.length < sizeLine ∧ 0 ≤ i ∧ i < 2 ^ 63 ∧ Q .non (upd H l (.lst (xs.take i.toNat ++ [y] ++ xs.drop i.toNat)))
abbrev tTruth (K : PySem.W.Frag) (ta : TE) : TT := fun σ H Q => ta σ H fun x H1 => ∃ k, TruV K x H1 k ∧ Q k H1

/-! ### steps by what the reading is -/
section
variable {K : PySem.W.Frag} {σ : L2.St} {H : Hp} {Q : VK} {x y v : V} {i j : Int} {p : Addr} {xs : List V}
theorem g_c (q : Q v H) : tC v σ H Q := q
theorem g_op {r : R2} {ta tb : TE} (q : ta σ H fun x H1 => tb σ H1 fun y H2 => r x y H2 Q) : tOp r ta tb σ H Q := q
theorem g_un {r : V → Hp → VK → Prop} {ta : TE} (q : ta σ H fun x H1 => r x H1 Q) : tUn r ta σ H Q := q
theorem g_chain {r r' : R2} {ta tb tc : TE} (q : ta σ H fun x H1 => tb σ H1 fun y H2 => r x y H2 fun z H3 => ∃ k, z = .bl k ∧ (if k = true then tc σ H3 fun w' H4 => r' y w' H4 Q else Q (.bl false) H3)) : tChain r r' ta tb tc σ H Q := q
theorem g_tB {t : TE} {Q : Bool → Hp → Prop} (h : t σ H fun x H' => ∃ k, x = .bl k ∧ Q k H') : tB t σ H Q := h
theorem g_and {t u : TT} {Q : Bool → Hp → Prop} (h : t σ H fun c H1 => if c = true then u σ H1 Q else Q false H1) : tAnd t u σ H Q := h
theorem g_or {t u : TT} {Q : Bool → Hp → Prop} (h : t σ H fun c H1 => if c = true then Q true H1 else u σ H1 Q) : tOr t u σ H Q := h
theorem g_not {t : TT} {Q : Bool → Hp → Prop} (h : t σ H fun c H1 => Q (!c) H1) : tNot t σ H Q := h
theorem g_andV {ta tb : TE} (h : ta σ H fun x H1 => ∃ c, x = .bl c ∧ if c = true then tb σ H1 Q else Q (.bl false) H1) : tAndV ta tb σ H Q := h
theorem g_orV {ta tb : TE} (h : ta σ H fun x H1 => ∃ c, x = .bl c ∧ if c = true then Q (.bl true) H1 else tb σ H1 Q) : tOrV ta tb σ H Q := h
theorem g_notV {ta : TE} (h : ta σ H fun x H1 => ∃ c, x = .bl c ∧ Q (.bl (!c)) H1) : tNotV ta σ H Q := h
theorem g_nil {Q : List V → Hp → Prop} (h : Q [] H) : tNil σ H Q := h
theorem g_cons {ta : TE} {tr : TA} {Q : List V → Hp → Prop} (h : ta σ H fun x H1 => tr σ H1 fun xs H2 => Q (x :: xs) H2) : tCons ta tr σ H Q := h
theorem g_tTup {t : TA} (h : t σ H fun xs H1 => xs.length ≤ sizeLine ∧ ∀ p, Fr H1 p → Q (.ref p) (upd H1 p (.tup xs))) : tTup t σ H Q := h
theorem g_tLst {t : TA} (h : t σ H fun xs H1 => xs.length ≤ sizeLine ∧ ∀ p, Fr H1 p → Q (.ref p) (upd H1 p (.lst xs))) : tLst t σ H Q := h
theorem g_cb {r : List V → Hp → VK → Prop} {t : TA} (h : t σ H fun vs H1 => r vs H1 Q) : tCB r t σ H Q := h
theorem g_call {sp : Sp} {dvs : List V} {E : XK} {t : TA} (h : t σ H fun vs H1 => sp (vs ++ dvs) H1 Q E) : tCall sp dvs E t σ H Q := h
theorem g_sl {r : V → Option Int → Option Int → Hp → VK → Prop} {te : TE} {tl th : TO} (h : te σ H fun x H1 => tl σ H1 fun l H2 => th σ H2 fun u H3 => r x l u H3 Q) : tSl r te tl th σ H Q := h
theorem g_wipe {a b : L2.St} {R : Prop} (h : a = b) (r : R) : a = b ∧ R := ⟨h, r⟩
theorem g_np {Q : Option Int → Hp → Prop} (h : Q none H) : tNoPart σ H Q := h
theorem g_pt {t : TE} {Q : Option Int → Hp → Prop} (h : t σ H fun x H1 => ∃ i, x = .int i ∧ Q (some i) H1) : tPart t σ H Q := h
theorem g_exI {R : Int → Prop} (q : R i) : ∃ i', V.int i = .int i' ∧ R i' := ⟨i, rfl, q⟩
theorem g_bm {T : String} {r : V → List V → Hp → VK → Prop} {to : TE} {t : TA} (h : to σ H fun x H1 => tyV K T x H1 ∧ t σ H1 fun xs H2 => r x xs H2 Q) : tBM K T r to t σ H Q := h
theorem g_bm0 {T : String} {r : V → List V → Hp → VK → Prop} {to : TE} (h : to σ H fun x H1 => tyV K T x H1 ∧ r x [] H1 Q) : tBM0 K T r to σ H Q := h
theorem g_tyL {R : Prop} (h : SqL K H p xs) (q : R) : tyV K "list" (.ref p) H ∧ R := ⟨.inl ⟨rfl, _, h⟩, q⟩
theorem g_yes {Q : Bool → Hp → Prop} (h : Q true H) : tYes σ H Q := h
theorem g_seq {t u : TS} {D : Ends} (h : t { D with nx := u D } σ H) : tSeq t u D σ H := h
theorem g_asg {te : TE} {g : TG} {D : Ends} (h : te σ H fun x H1 => g x σ H1 D.nx) : tAsg te g D σ H := h
theorem g_name {n : Nat} {Q : L2.St → Hp → Prop} (h : Q (σ.set n (some v)) H) : gName n v σ H Q := h
theorem g_sub {to ti : TE} {t : TSet} {Q : L2.St → Hp → Prop} (h : to σ H fun o H1 => ti σ H1 fun i H2 => t o i v H2 fun H3 => Q σ H3) : gSub to ti t v σ H Q := h
theorem g_gtup {n : Nat} {t : TGs} {Q : L2.St → Hp → Prop} (h : SqT K H p xs) (l : xs.length = n) (q : t xs σ H Q) : gTup K n t (.ref p) σ H Q := ⟨p, xs, rfl, h, l, q⟩
theorem g_gcons {t : TG} {u : TGs} {Q : L2.St → Hp → Prop} (h : t x σ H fun σ' H' => u xs σ' H' Q) : gCons t u (x :: xs) σ H Q := ⟨x, xs, rfl, h⟩
theorem g_gnil {Q : L2.St → Hp → Prop} (h : Q σ H) : gNil [] σ H Q := ⟨rfl, h⟩
theorem g_seqA {te : TE} {g : TG} {u : TS} {D : Ends} (h : tAsg te g { D with nx := u D } σ H) : tSeq (tAsg te g) u D σ H := h
theorem g_seqR {c : TT} {te : TE} {v u : TS} {D : Ends} (h : tIfS c (tRet te) v { D with nx := u D } σ H) : tSeq (tIfS c (tRet te) v) u D σ H := h
theorem g_seqD {te : TE} {u : TS} {D : Ends} (h : tDrop te { D with nx := u D } σ H) : tSeq (tDrop te) u D σ H := h
theorem g_seqF {wi : TI} {g : TG} {b u : TS} {D : Ends} (h : tFor wi g b { D with nx := u D } σ H) : tSeq (tFor wi g b) u D σ H := h
theorem g_seqW {c : TT} {b u : TS} {D : Ends} (h : tWhile c b { D with nx := u D } σ H) : tSeq (tWhile c b) u D σ H := h
theorem g_ifS {c : TT} {t u : TS} {D : Ends} (h : c σ H fun b H1 => if b = true then t D σ H1 else u D σ H1) : tIfS c t u D σ H := h
theorem g_ret {te : TE} {D : Ends} (h : te σ H D.rt) : tRet te D σ H := h
theorem g_drop {te : TE} {D : Ends} (h : te σ H fun _ H1 => D.nx σ H1) : tDrop te D σ H := h
theorem g_next {D : Ends} (h : D.nx σ H) : tNext D σ H := h
theorem g_lstRg {te : L2.St → Hp → (Int → Int → Hp → Prop) → Prop} (h : te σ H fun a b H1 => RgOk a b ∧ ∀ q, Fr H1 q → Q (.ref q) (upd H1 q (.lst (rgV a b)))) : tLstRg te σ H Q := h
theorem g_rg2 {ta tb : TE} {Q : Int → Int → Hp → Prop} (h : ta σ H fun x H1 => tb σ H1 fun y H2 => ∃ i j, x = .int i ∧ y = .int j ∧ Q i j H2) : tRg2 ta tb σ H Q := h
theorem g_exII {R : Int → Int → Prop} (q : R i j) : ∃ i' j', V.int i = .int i' ∧ V.int j = .int j' ∧ R i' j' := ⟨i, j, rfl, rfl, q⟩
theorem g_rng1 {ta : TA} {R : It → Hp → Prop} (h : ta σ H fun vs H1 => ∃ j : Int, vs = [.int j] ∧ -(2 ^ 62) ≤ j ∧ j < 2 ^ 62 ∧ R (Itr 0 j.toNat) H1) : iRng1 ta σ H R := h
theorem g_rng1b {R : Int → Prop} (a : -(2 ^ 62) ≤ i) (b : i < 2 ^ 62) (q : R i) : ∃ j : Int, [V.int i] = [.int j] ∧ -(2 ^ 62) ≤ j ∧ j < 2 ^ 62 ∧ R j := ⟨i, rfl, a, b, q⟩
theorem g_iList {tl : TE} {R : It → Hp → Prop} (h : tl σ H fun x H1 => ∃ a, x = .ref a ∧ (∃ xs, SqL K H1 a xs) ∧ R (Itl K a) H1) : iList K tl σ H R := h
theorem g_iListb {R : Addr → Prop} (h : SqL K H p xs) (q : R p) : ∃ a, V.ref p = .ref a ∧ (∃ xs, SqL K H a xs) ∧ R a := ⟨p, rfl, ⟨xs, h⟩, q⟩
theorem g_iTup {tl : TE} {R : It → Hp → Prop} (h : tl σ H fun x H1 => ∃ a, x = .ref a ∧ (∃ xs, SqT K H1 a xs) ∧ R (Itt K a) H1) : iTup K tl σ H R := h
theorem g_iTupb {R : Addr → Prop} (h : SqT K H p xs) (q : R p) : ∃ a, V.ref p = .ref a ∧ (∃ xs, SqT K H a xs) ∧ R a := ⟨p, rfl, ⟨xs, h⟩, q⟩
theorem g_for {wi : TI} {g : TG} {tb : TS} {D : Ends} (h : wi σ H fun J H1 => ∃ W : Nat → Nat → L2.St → Hp → Prop, (∃ m, W 0 m σ H1) ∧ ∀ i m σ H, W i m σ H →
  (J.stop i H ∧ D.nx σ H) ∨ (J.go i H ∧ ∃ N : L2.St → Hp → Prop, (∀ σ' H', N σ' H' → ∃ m', m' < m ∧ W (i + 1) m' σ' H') ∧ ∀ x H', J.yld i H x H' → g x σ H' fun σ2 H2 => tb { D with nx := N, ct := N, bk := D.nx } σ2 H2)) : tFor wi g tb D σ H := h
theorem g_lc {wi : TI} {g : TG} {tt : TT} {te : TE} {vs : List Nat} (h : wi σ H fun J H1 => ∀ D, Fr H1 D → ∃ W : Nat → Nat → Hp → Prop, (∃ m, W 0 m (upd H1 D (.lst []))) ∧ ∀ i m H, W i m H →
  (J.stop i H ∧ Q (.ref D) H) ∨ (J.go i H ∧ ∃ Nx : Hp → Prop, (∀ H', Nx H' → ∃ m', m' < m ∧ W (i + 1) m' H') ∧ ∀ x H', J.yld i H x H' → g x (wipe σ vs) H' fun σ2 H2 => wipe σ2 vs = wipe σ vs ∧ tt σ2 H2 fun b H3 =>
    if b = true then te σ2 H3 fun y H4 => ∃ acc, H4 D = some (.lst acc) ∧ acc.length < sizeLine ∧ Nx (upd H4 D (.lst (acc ++ [y]))) else Nx H3)) : tLc wi g tt te vs σ H Q := h
theorem g_var {n : Nat} (h : σ[n]? = some (some v)) (q : Q v H) : tVar n σ H Q := ⟨v, h, q⟩
theorem g_rI0 {g : Int → Int → V} (q : Q (g i j) H) : rI0 g (.int i) (.int j) H Q := ⟨i, j, rfl, rfl, q⟩
theorem g_rI {C : Int → Int → Prop} {g : Int → Int → V} (c : C i j) (q : Q (g i j) H) : rI C g (.int i) (.int j) H Q := ⟨i, j, rfl, rfl, c, q⟩
theorem g_pow6 (q : Q (.int 1000000) H) : rPow (.int 10) (.int 6) H Q := ⟨10, 6, rfl, rfl, ⟨by decide, by decide, by decide⟩, q⟩
theorem g_pow12 (q : Q (.int 1000000000000) H) : rPow (.int 10) (.int 12) H Q := ⟨10, 12, rfl, rfl, ⟨by decide, by decide, by decide⟩, q⟩
theorem g_pow18 (q : Q (.int 1000000000000000000) H) : rPow (.int 10) (.int 18) H Q := ⟨10, 18, rfl, rfl, ⟨by decide, by decide, by decide⟩, q⟩
theorem g_eq (c : scal x y = true) (q : Q (.bl (decide (x = y))) H) : rEq x y H Q := ⟨c, q⟩
theorem g_ne (c : scal x y = true) (q : Q (.bl (!decide (x = y))) H) : rNe x y H Q := ⟨c, q⟩
theorem g_ixL (h : SqL K H p xs) (a : atI xs i = some v) (q : Q v H) : rIxL K (.ref p) (.int i) H Q := ⟨p, xs, i, v, rfl, rfl, h, a, q⟩
theorem g_ixT (h : SqT K H p xs) (a : atI xs i = some v) (q : Q v H) : rIxT K (.ref p) (.int i) H Q := ⟨p, xs, i, v, rfl, rfl, h, a, q⟩
theorem g_setL {Q : Hp → Prop} {n : Nat} (h : H p = some (.lst xs)) (a : ixN xs.length i = some n) (q : Q (upd H p (.lst (xs.set n v)))) : rSetL (.ref p) (.int i) v H Q := ⟨p, xs, i, n, rfl, rfl, h, a, q⟩
theorem g_len (h : SqL K H p xs ∨ SqT K H p xs) (q : Q (.int xs.length) H) : rLen K [.ref p] H Q := ⟨p, xs, rfl, h, q⟩
theorem g_test {t : TE} {Q : Bool → Hp → Prop} (h : t σ H fun x H' => ∃ k, x = .bl k ∧ Q k H') : tTest t σ H Q := h
theorem g_bl {R : Bool → Prop} {k : Bool} (q : R k) : ∃ k', V.bl k = .bl k' ∧ R k' := ⟨k, rfl, q⟩
theorem g_sz {n : Nat} {R : Prop} (z : n ≤ sizeLine) (q : R) : n ≤ sizeLine ∧ R := ⟨z, q⟩
theorem g_slL {lo hi : Option Int} (h : SqL K H p xs) (q : ∀ a, Fr H a → Q (.ref a) (upd H a (.lst (cutV xs lo hi)))) : rSlL K (.ref p) lo hi H Q := ⟨p, xs, rfl, h, q⟩
theorem g_listOf (h : SqL K H p xs ∨ SqT K H p xs) (q : ∀ a, Fr H a → Q (.ref a) (upd H a (.lst xs))) : rListOf K [.ref p] H Q := ⟨p, xs, rfl, h, q⟩
theorem g_append (h : H p = some (.lst xs)) (z : xs.length < sizeLine) (q : Q .non (upd H p (.lst (xs ++ [y])))) : rAppend (.ref p) [y] H Q := ⟨p, xs, y, rfl, rfl, h, z, q⟩
theorem g_isN (q : Q (.bl (decide (x = .non))) H) : rIsN x .non H Q := ⟨rfl, q⟩
theorem g_notN (q : Q (.bl (!decide (x = .non))) H) : rNotN x .non H Q := ⟨rfl, q⟩
theorem g_neg (q : Q (.int (-i)) H) : rNeg (.int i) H Q := ⟨i, rfl, q⟩
theorem g_max2 (q : Q (.int (if j > i then j else i)) H) : rMax2 [.int i, .int j] H Q := ⟨i, j, rfl, q⟩
theorem g_min2 (q : Q (.int (if j < i then j else i)) H) : rMin2 [.int i, .int j] H Q := ⟨i, j, rfl, q⟩
end
section
variable {K : PySem.W.Frag} {H : Hp} {Q : VK} {i : Int} {p : Addr} {xs : List V}
theorem g_isi_int_int  (q : Q (.bl true) H) : rIsi K [.int i, .ty "int"] H Q := ⟨_, _, .type "int", .type "int", true, rfl, .ty _, .base (.int i), kit_ty (by decide +kernel), q⟩
theorem g_isi_int_bool  (q : Q (.bl false) H) : rIsi K [.int i, .ty "bool"] H Q := ⟨_, _, .type "int", .type "bool", false, rfl, .ty _, .base (.int i), kit_ty (by decide +kernel), q⟩
theorem g_isi_int_str  (q : Q (.bl false) H) : rIsi K [.int i, .ty "str"] H Q := ⟨_, _, .type "int", .type "str", false, rfl, .ty _, .base (.int i), kit_ty (by decide +kernel), q⟩
theorem g_isi_int_tuple  (q : Q (.bl false) H) : rIsi K [.int i, .ty "tuple"] H Q := ⟨_, _, .type "int", .type "tuple", false, rfl, .ty _, .base (.int i), kit_ty (by decide +kernel), q⟩
theorem g_isi_bl_int {k : Bool} (q : Q (.bl true) H) : rIsi K [.bl k, .ty "int"] H Q := ⟨_, _, .type "bool", .type "int", true, rfl, .ty _, .base (.bl k), kit_ty (by decide +kernel), q⟩
theorem g_isi_bl_bool {k : Bool} (q : Q (.bl true) H) : rIsi K [.bl k, .ty "bool"] H Q := ⟨_, _, .type "bool", .type "bool", true, rfl, .ty _, .base (.bl k), kit_ty (by decide +kernel), q⟩
theorem g_isi_bl_str {k : Bool} (q : Q (.bl false) H) : rIsi K [.bl k, .ty "str"] H Q := ⟨_, _, .type "bool", .type "str", false, rfl, .ty _, .base (.bl k), kit_ty (by decide +kernel), q⟩
theorem g_isi_bl_tuple {k : Bool} (q : Q (.bl false) H) : rIsi K [.bl k, .ty "tuple"] H Q := ⟨_, _, .type "bool", .type "tuple", false, rfl, .ty _, .base (.bl k), kit_ty (by decide +kernel), q⟩
theorem g_isi_str_int {z : Str} (q : Q (.bl false) H) : rIsi K [.str z, .ty "int"] H Q := ⟨_, _, .type "str", .type "int", false, rfl, .ty _, .base (.str z), kit_ty (by decide +kernel), q⟩
theorem g_isi_str_bool {z : Str} (q : Q (.bl false) H) : rIsi K [.str z, .ty "bool"] H Q := ⟨_, _, .type "str", .type "bool", false, rfl, .ty _, .base (.str z), kit_ty (by decide +kernel), q⟩
theorem g_isi_str_str {z : Str} (q : Q (.bl true) H) : rIsi K [.str z, .ty "str"] H Q := ⟨_, _, .type "str", .type "str", true, rfl, .ty _, .base (.str z), kit_ty (by decide +kernel), q⟩
theorem g_isi_str_tuple {z : Str} (q : Q (.bl false) H) : rIsi K [.str z, .ty "tuple"] H Q := ⟨_, _, .type "str", .type "tuple", false, rfl, .ty _, .base (.str z), kit_ty (by decide +kernel), q⟩
theorem g_isi_non_int  (q : Q (.bl false) H) : rIsi K [.non, .ty "int"] H Q := ⟨_, _, .type "NoneType", .type "int", false, rfl, .ty _, .base .non, kit_ty (by decide +kernel), q⟩
theorem g_isi_non_bool  (q : Q (.bl false) H) : rIsi K [.non, .ty "bool"] H Q := ⟨_, _, .type "NoneType", .type "bool", false, rfl, .ty _, .base .non, kit_ty (by decide +kernel), q⟩
theorem g_isi_non_str  (q : Q (.bl false) H) : rIsi K [.non, .ty "str"] H Q := ⟨_, _, .type "NoneType", .type "str", false, rfl, .ty _, .base .non, kit_ty (by decide +kernel), q⟩
theorem g_isi_non_tuple  (q : Q (.bl false) H) : rIsi K [.non, .ty "tuple"] H Q := ⟨_, _, .type "NoneType", .type "tuple", false, rfl, .ty _, .base .non, kit_ty (by decide +kernel), q⟩
theorem g_isi_lst_int (h : H p = some (.lst xs)) (q : Q (.bl false) H) : rIsi K [.ref p, .ty "int"] H Q := ⟨_, _, .type "list", .type "int", false, rfl, .ty _, .base (.lst h), kit_ty (by decide +kernel), q⟩
theorem g_isi_lst_bool (h : H p = some (.lst xs)) (q : Q (.bl false) H) : rIsi K [.ref p, .ty "bool"] H Q := ⟨_, _, .type "list", .type "bool", false, rfl, .ty _, .base (.lst h), kit_ty (by decide +kernel), q⟩
theorem g_isi_lst_str (h : H p = some (.lst xs)) (q : Q (.bl false) H) : rIsi K [.ref p, .ty "str"] H Q := ⟨_, _, .type "list", .type "str", false, rfl, .ty _, .base (.lst h), kit_ty (by decide +kernel), q⟩
theorem g_isi_lst_tuple (h : H p = some (.lst xs)) (q : Q (.bl false) H) : rIsi K [.ref p, .ty "tuple"] H Q := ⟨_, _, .type "list", .type "tuple", false, rfl, .ty _, .base (.lst h), kit_ty (by decide +kernel), q⟩
theorem g_isi_tup_int (h : H p = some (.tup xs)) (q : Q (.bl false) H) : rIsi K [.ref p, .ty "int"] H Q := ⟨_, _, .type "tuple", .type "int", false, rfl, .ty _, .base (.tup h), kit_ty (by decide +kernel), q⟩
theorem g_isi_tup_bool (h : H p = some (.tup xs)) (q : Q (.bl false) H) : rIsi K [.ref p, .ty "bool"] H Q := ⟨_, _, .type "tuple", .type "bool", false, rfl, .ty _, .base (.tup h), kit_ty (by decide +kernel), q⟩
theorem g_isi_tup_str (h : H p = some (.tup xs)) (q : Q (.bl false) H) : rIsi K [.ref p, .ty "str"] H Q := ⟨_, _, .type "tuple", .type "str", false, rfl, .ty _, .base (.tup h), kit_ty (by decide +kernel), q⟩
theorem g_isi_tup_tuple (h : H p = some (.tup xs)) (q : Q (.bl true) H) : rIsi K [.ref p, .ty "tuple"] H Q := ⟨_, _, .type "tuple", .type "tuple", true, rfl, .ty _, .base (.tup h), kit_ty (by decide +kernel), q⟩
end
/-! ### promises by the number of arguments -/
abbrev Sp0 (p : Hp → VK → XK → Prop) : Sp := fun vs H Q E => vs = [] ∧ p H Q E
abbrev Sp1 (p : V → Hp → VK → XK → Prop) : Sp := fun vs H Q E => ∃ a, vs = [a] ∧ p a H Q E
abbrev Sp2 (p : V → V → Hp → VK → XK → Prop) : Sp := fun vs H Q E => ∃ a b, vs = [a, b] ∧ p a b H Q E
abbrev Sp3 (p : V → V → V → Hp → VK → XK → Prop) : Sp := fun vs H Q E => ∃ a b c, vs = [a, b, c] ∧ p a b c H Q E
abbrev Sp4 (p : V → V → V → V → Hp → VK → XK → Prop) : Sp := fun vs H Q E => ∃ a b c d, vs = [a, b, c, d] ∧ p a b c d H Q E
abbrev Sp5 (p : V → V → V → V → V → Hp → VK → XK → Prop) : Sp := fun vs H Q E => ∃ a b c d e, vs = [a, b, c, d, e] ∧ p a b c d e H Q E

/-! ### heaps: all but some places is kept -/
/-- all that stood stands, but what is at the places of L -/
def Kp (L : List Addr) (H H' : Hp) : Prop := ∀ a o, H a = some o → a ∉ L → H' a = some o
theorem Kp.refl (L : List Addr) (H : Hp) : Kp L H H := fun _ _ h _ => h
theorem Kp.trans {L : List Addr} {H H1 H2 : Hp} (a : Kp L H H1) (b : Kp L H1 H2) : Kp L H H2 := fun c o h n => b c o (a c o h n) n
theorem Same.kp {H H' : Hp} (a : Same H H') (L : List Addr) : Kp L H H' := fun c o e _ => a c o e
theorem same_new {H : Hp} {p : Addr} {o : HO} (h : Fr H p) : Same H (upd H p o) := fun b x e => by
  rw [upd_ne (ne_of_none e h)]
  exact e
theorem kp_upd {H : Hp} {p : Addr} {o : HO} {L : List Addr} (h : p ∈ L) : Kp L H (upd H p o) := fun b x e n => by
  rw [upd_ne fun z => n (by rw [z]; exact h)]
  exact e
theorem Kp.new {L : List Addr} {H H' : Hp} {p : Addr} {o : HO} (a : Kp L H H') (h : Fr H' p) : Kp L H (upd H' p o) := a.trans (Same.kp (same_new h) L)
/-- a place that H did not know may change -/
theorem Kp.own {L : List Addr} {H H' : Hp} {p : Addr} {o : HO} (a : Kp L H H') (h : Fr H p) : Kp L H (upd H' p o) := fun b x e n => by
  rw [upd_ne (ne_of_none e h)]
  exact a b x e n
theorem SqT.kp {K : PySem.W.Frag} {L : List Addr} {H H' : Hp} {a : Addr} {xs : List V} (k : Kp L H H') (n : a ∉ L) (h : SqT K H a xs) : SqT K H' a xs := by
  rcases h with (h | ⟨o, h⟩) | h
  · exact .inl (.inl (k _ _ h n))
  · exact .inl (.inr ⟨o, k _ _ h n⟩)
  · exact .inr h
theorem SqL.kp {K : PySem.W.Frag} {L : List Addr} {H H' : Hp} {a : Addr} {xs : List V} (k : Kp L H H') (n : a ∉ L) (h : SqL K H a xs) : SqL K H' a xs := by
  rcases h with (h | ⟨o, h⟩) | h
  · exact .inl (.inl (k _ _ h n))
  · exact .inl (.inr ⟨o, k _ _ h n⟩)
  · exact .inr h
theorem get_same {H H' : Hp} {p : Addr} {o : HO} (e : Same H H') (h : H p = some o) : H' p = some o := e p o h
theorem get_kp {L : List Addr} {H H' : Hp} {p : Addr} {o : HO} (e : Kp L H H') (h : H p = some o) (n : p ∉ L) : H' p = some o := e p o h n
theorem at_new {H : Hp} {p a : Addr} {o u : HO} (hp : Fr H p) (h : H a = some o) : upd H p u a = some o := by
  rw [upd_ne (ne_of_none h hp)]
  exact h
theorem at_ne {H : Hp} {p a : Addr} {o u : HO} (n : a ≠ p) (h : H a = some o) : upd H p u a = some o := by
  rw [upd_ne n]
  exact h
theorem ne_new' {H : Hp} {p a : Addr} {o : HO} (hp : Fr H p) (h : H a = some o) : p ≠ a := (ne_of_none h hp).symm
theorem sm_new {H H' : Hp} {p : Addr} {o : HO} (hp : Fr H' p) (h : Same H H') : Same H (upd H' p o) := h.trans (same_new hp)
theorem sm_tr {H H1 H2 : Hp} (h : Same H1 H2) (e : Same H H1) : Same H H2 := e.trans h
theorem sm_own {H H' : Hp} {p : Addr} {o : HO} (hp : Fr H p) (h : Same H H') : Same H (upd H' p o) := fun b x e => at_ne (ne_of_none e hp) (h b x e)
theorem fr_of {H H' : Hp} {p : Addr} (h : Fr H' p) (e : Same H H') : Fr H p := e.free h
theorem sql_new {K : PySem.W.Frag} {H : Hp} {p a : Addr} {o : HO} {xs : List V} (hp : Fr H p) (h : SqL K H a xs) : SqL K (upd H p o) a xs := Same.seq (same_new hp) h
theorem sq_or {K : PySem.W.Frag} {H : Hp} {p : Addr} {xs : List V} (h : H p = some (.lst xs)) : SqL K H p xs ∨ SqT K H p xs := .inl (SqL.of h)
theorem sq_orT {K : PySem.W.Frag} {H : Hp} {p : Addr} {xs : List V} (h : H p = some (.tup xs)) : SqL K H p xs ∨ SqT K H p xs := .inr (SqT.of h)
theorem ite_t {c : Bool} {A B : Prop} (h : c = true) (x : A) : if c = true then A else B := by
  rw [if_pos h]
  exact x
theorem ite_f {c : Bool} {A B : Prop} (h : c = false) (x : B) : if c = true then A else B := by
  rw [h, if_neg Bool.false_ne_true]
  exact x
theorem ite_dt {p : Prop} [Decidable p] {A B : Prop} (h : p) (x : A) : if decide p = true then A else B := ite_t (decide_eq_true h) x
theorem ite_df {p : Prop} [Decidable p] {A B : Prop} (h : ¬ p) (x : B) : if decide p = true then A else B := ite_f (decide_eq_false h) x
theorem ite_b {c : Bool} {A B : Prop} (h1 : c = true → A) (h2 : c = false → B) : if c = true then A else B := by
  cases c with
  | true => rw [if_pos rfl]; exact h1 rfl
  | false => rw [if_neg Bool.false_ne_true]; exact h2 rfl
theorem ite_d {p : Prop} [Decidable p] {A B : Prop} (h1 : p → A) (h2 : ¬ p → B) : if decide p = true then A else B := ite_b (fun h => h1 (of_decide_eq_true h)) fun h => h2 (of_decide_eq_false h)
theorem ite_nt {A B : Prop} (x : B) : if (!true) = true then A else B := ite_f rfl x
theorem ite_nf {A B : Prop} (x : A) : if (!false) = true then A else B := ite_t rfl x
theorem ite_nd {p : Prop} [Decidable p] {A B : Prop} (h1 : p → B) (h2 : ¬ p → A) : if (!decide p) = true then A else B := ite_b (fun h => h2 (by simpa using h)) fun h => h1 (by simpa using h)
theorem ite_ndt {p : Prop} [Decidable p] {A B : Prop} (h : p) (x : B) : if (!decide p) = true then A else B := ite_f (by simpa using h) x
theorem ite_ndf {p : Prop} [Decidable p] {A B : Prop} (h : ¬ p) (x : A) : if (!decide p) = true then A else B := ite_t (by simpa using h) x
theorem int_eq {i j : Int} : decide (V.int i = V.int j) = decide (i = j) := by
  by_cases h : i = j
  · subst h; simp
  · simp [h]
theorem cut_to {xs : List V} {n : Int} (h : 0 ≤ n) : cutV xs none (some n) = xs.take n.toNat := by
  obtain ⟨k, rfl⟩ : ∃ k : Nat, n = k := ⟨n.toNat, by omega⟩
  unfold cutV
  rw [HT.sIx_none, HT.sIx_nat]
  simp only [List.drop_zero, Nat.sub_zero, Int.toNat_natCast]
  rw [List.take_eq_take_iff]
  simp
theorem cut_from {xs : List V} {n : Int} (h : 0 ≤ n) : cutV xs (some n) none = xs.drop n.toNat := by
  obtain ⟨k, rfl⟩ : ∃ k : Nat, n = k := ⟨n.toNat, by omega⟩
  unfold cutV
  rw [HT.sIx_none, HT.sIx_nat]
  simp only [Int.toNat_natCast]
  by_cases hk : k ≤ xs.length
  · rw [Nat.min_eq_left hk, List.take_of_length_le (by rw [List.length_drop]; omega)]
  · rw [Nat.min_eq_right (by omega), List.drop_of_length_le (by omega), List.drop_of_length_le (by omega)]
    simp
theorem at_k0 {xs : List V} {v : V} (h : xs[0]? = some v) : atI xs 0 = some v := atI_nat (j := 0) h
theorem at_k1 {xs : List V} {v : V} (h : xs[1]? = some v) : atI xs 1 = some v := atI_nat (j := 1) h
theorem at_k2 {xs : List V} {v : V} (h : xs[2]? = some v) : atI xs 2 = some v := atI_nat (j := 2) h
theorem at_k3 {xs : List V} {v : V} (h : xs[3]? = some v) : atI xs 3 = some v := atI_nat (j := 3) h
theorem ix_k0 {n : Nat} (h : 0 < n) : ixN n 0 = some 0 := by
  unfold ixN
  simp
  omega
theorem ix_k1 {n : Nat} (h : 1 < n) : ixN n 1 = some 1 := by
  unfold ixN
  simp
  omega
/-- one of a written list's items -/
theorem pick {xs : List V} {i : Int} (h0 : 0 ≤ i) (h : i < xs.length) : ∃ v, atI xs i = some v ∧ v ∈ xs := by
  have hj : i.toNat < xs.length := by omega
  have e : ((i.toNat : Nat) : Int) = i := by omega
  exact ⟨xs[i.toNat], by
    have h := atI_nat (List.getElem?_eq_getElem hj)
    rwa [e] at h, List.getElem_mem hj⟩
theorem g_pick2 {K : PySem.W.Frag} {H : Hp} {Q : VK} {p : Addr} {a b w : Int} (h : SqL K H p [.int a, .int b]) (h0 : 0 ≤ w) (h1 : w < 2) (q : ∀ v : Int, v = a ∨ v = b → Q (.int v) H) : rIxL K (.ref p) (.int w) H Q := by
  obtain ⟨v, hv, hm⟩ := pick (xs := [.int a, .int b]) h0 h1
  simp only [List.mem_cons, List.not_mem_nil, or_false] at hm
  rcases hm with rfl | rfl <;> exact ⟨p, _, w, _, rfl, rfl, h, hv, q _ (by simp)⟩
theorem g_pick4 {K : PySem.W.Frag} {H : Hp} {Q : VK} {p : Addr} {a b c d w : Int} (h : SqL K H p [.int a, .int b, .int c, .int d]) (h0 : 0 ≤ w) (h1 : w < 4) (q : ∀ v : Int, v = a ∨ v = b ∨ v = c ∨ v = d → Q (.int v) H) : rIxL K (.ref p) (.int w) H Q := by
  obtain ⟨v, hv, hm⟩ := pick (xs := [.int a, .int b, .int c, .int d]) h0 h1
  simp only [List.mem_cons, List.not_mem_nil, or_false] at hm
  rcases hm with rfl | rfl | rfl | rfl <;> exact ⟨p, _, w, _, rfl, rfl, h, hv, q _ (by simp)⟩
theorem g_pick5 {K : PySem.W.Frag} {H : Hp} {Q : VK} {p : Addr} {a b c d e w : Int} (h : SqL K H p [.int a, .int b, .int c, .int d, .int e]) (h0 : 0 ≤ w) (h1 : w < 5) (q : ∀ v : Int, v = a ∨ v = b ∨ v = c ∨ v = d ∨ v = e → Q (.int v) H) : rIxL K (.ref p) (.int w) H Q := by
  obtain ⟨v, hv, hm⟩ := pick (xs := [.int a, .int b, .int c, .int d, .int e]) h0 h1
  simp only [List.mem_cons, List.not_mem_nil, or_false] at hm
  rcases hm with rfl | rfl | rfl | rfl | rfl <;> exact ⟨p, _, w, _, rfl, rfl, h, hv, q _ (by simp)⟩
theorem g_pick {K : PySem.W.Frag} {H : Hp} {Q : VK} {p : Addr} {xs : List V} {w : Int} (h : SqL K H p xs) (h0 : 0 ≤ w) (h1 : w < xs.length) (q : ∀ v, v ∈ xs → Q v H) : rIxL K (.ref p) (.int w) H Q := by
  obtain ⟨v, hv, hm⟩ := pick (xs := xs) h0 h1
  exact ⟨p, _, w, _, rfl, rfl, h, hv, q _ hm⟩
theorem kp_tr {L : List Addr} {H H1 H2 : Hp} (b : Kp L H1 H2) (a : Kp L H H1) : Kp L H H2 := a.trans b
theorem kp_own {L : List Addr} {H H' : Hp} {p : Addr} {o : HO} (hp : Fr H p) (a : Kp L H H') : Kp L H (upd H' p o) := Kp.own a hp
theorem kp_new {L : List Addr} {H H' : Hp} {p : Addr} {o : HO} (hp : Fr H' p) (a : Kp L H H') : Kp L H (upd H' p o) := Kp.new a hp
theorem fr_kp {L : List Addr} {H H' : Hp} {p : Addr} (h : Fr H' p) (e : Kp L H H') (n : p ∉ L) : Fr H p := by
  replace h : H' p = none := h
  cases hH : H p with
  | none => exact hH
  | some o => rw [e p o hH n] at h; cases h
theorem fr_new {H : Hp} {p q : Addr} {o : HO} (h : Fr (upd H q o) p) : Fr H p := by
  replace h : upd H q o p = none := h
  show H p = none
  by_cases e : p = q
  · rw [e, upd_same] at h; cases h
  · rwa [upd_ne e] at h
theorem g_lenA {K : PySem.W.Frag} {H : Hp} {Q : VK} {x : V} {n : Nat} (h : LenV K x H n) (q : Q (.int n) H) : rLenA K [x] H Q := ⟨x, n, rfl, h, q⟩
theorem g_cat {H : Hp} {Q : VK} {p b : Addr} {xs zs : List V} (h : H p = some (.lst xs)) (h2 : H b = some (.lst zs)) (z : xs.length + zs.length ≤ sizeLine) (q : ∀ l, Fr H l → Q (.ref l) (upd H l (.lst (xs ++ zs)))) : rCat (.ref p) (.ref b) H Q := ⟨p, b, xs, zs, rfl, rfl, h, h2, z, q⟩
theorem g_pickL {K : PySem.W.Frag} {H : Hp} {Q : VK} {p : Addr} {xs : List V} {w n : Int} (h : H p = some (.lst xs)) (h0 : 0 ≤ w) (h1 : w < n) (e : n = (xs.length : Nat)) (q : ∀ v, v ∈ xs → Q v H) : rIxL K (.ref p) (.int w) H Q := g_pick (SqL.of h) h0 (by rw [← e]; exact h1) q
/-! YG: defs that are only ever run while no display of a container goes on: what repr of lists and tuples wants. -/
open PySem PySem.Spec PyProof.Rows L2
/-- room, and no display under way -/
structure RoomG (k : Nat) (A : Around) : Prop where
  rm : Room k A
  no : A.guards = some []
theorem RoomG.mono {i k : Nat} {A : Around} (r : RoomG k A) (h : i ≤ k) : RoomG i A := ⟨r.rm.mono h, r.no⟩
theorem RoomG.deeper {k : Nat} {A : Around} (r : RoomG (k + 1) A) (v : Env) : RoomG k (A.deeper v) := ⟨r.rm.deeper v, r.no⟩
theorem RoomG.units {k : Nat} {A : Around} (r : RoomG k A) : A.units + 64 < cLine := r.rm.units
theorem make_guards {A : Around} {C : Addr} {us : List Value} : (A.under (.builtin "type.__call__" ⟨.ref C :: us, []⟩)).guards = A.guards := by
  have e : (Code.builtin "type.__call__" ⟨.ref C :: us, []⟩).guards = [] := by
    unfold Code.guards
    rw [if_neg]
    simp [Code.isGuard, guardIds]
  show pushGuards (Code.builtin "type.__call__" ⟨.ref C :: us, []⟩).guards A.guards = A.guards
  rw [e, pushGuards_eq]
  cases A.guards <;> simp
theorem RoomG.make {k : Nat} {A : Around} (r : RoomG (k + 1) A) (C : Addr) (us : List Value) : RoomG k (A.under (.builtin "type.__call__" ⟨.ref C :: us, []⟩)) := ⟨r.rm.make C us [], make_guards.trans r.no⟩
/-- a def keeps its promise wherever there is room and no display under way -/
structure FnG (P : Program) (w : World) (K : PySem.W.Frag) (mg : Str → Option Value) (base : Heap) (CX : CXT) (k : Nat) (f : Addr) (fd : FuncData) (ps : List Str) (sp : Sp) : Prop where
  len : ∀ vs H Q E, sp vs H Q E → vs.length = ps.length
  run : ∀ (A : Around) (outer : List Env) (s : Shared) (H : Hp) (args : Args) (us : List Value) (vs : List V) (Q : VK) (E : XK), RoomG k A → Env0 P w K mg base A outer s H → BindsTo s fd args (ps.zip us) → Vals vs us →
    sp vs H Q E → codeAny (model P w) A (.call (.ref f) args) (CR CX outer P w H s Q E) s
section
variable {X : Cx} {CX : CXT} {k : Nat} {f C : Addr} {fd : FuncData} {ps : List Str} {sp : Sp} {dvs : List V} {ds : List Value} {E : XK} {x m : Str} {p pos apos : Pos} {e o : Expr} {es : List Expr} {ta : TE} {t : TA} {pins : List (Addr × Obj)} {σ : L2.St} {H : Hp} {s : Shared} {Q : VK} {us : List Value} {vs : List V}
/-- the callee's run, from a body -/
theorem g_runs (F : FnG X.prog X.w X.K X.mg X.base CX k f fd ps sp) (room : RoomG k X.A) (bi : Binds X.K fd ps ds) (dv : Vals dvs ds) (pass : Passes CX X E) (I : Inv X pins σ H s) (rv : Vals vs us) (pr : sp (vs ++ dvs) H Q E) :
    wpAny (model X.prog X.w) X.A (call (.ref f) us) (EP X pins σ Q) X.xe s := by
  have whole := rv.append dv
  have n : (us ++ ds).length = ps.length := whole.length.symm.trans (F.len _ _ _ _ pr)
  refine wpAny_call (codeAny_mono (F.run _ _ _ _ _ _ _ _ _ room I.env0 (bi _ _ I.kIn n) whole pr) ?_)
  intro end_ s' h
  match end_, h with
  | .error _, h => exact pass _ _ _ _ _ _ I h
  | .ok (.ret _), h => exact I.after h
theorem g_pe_call (F : FnG X.prog X.w X.K X.mg X.base CX k f fd ps sp) (room : RoomG k X.A) (gl : Gl X x) (at_ : X.mg x = some (.ref f)) (kept : PySem.W.keepIn X.K (.ref f) = true) (bi : Binds X.K fd ps ds) (dv : Vals dvs ds) (pass : Passes CX X E) (args : PA X (e :: es) t)
    (nd : (x == ("__debug__" : Str)) = false := by decide) (st : starEach (e :: es) X.env = (false, eval e X.env) :: starEach es X.env := by rfl) (pl : (backTo pos (starEach es X.env)).any (·.1) = false := by rfl) :
    PE X (.Call (.Name x p) (e :: es) [] pos) (tCall sp dvs E t) := ⟨fun pins s σ H Q I h =>
  wpAny_Call_Name_kw (ld_glob I gl at_ (PySem.W.callWith_K (h₀ := X.base) I.ok.mod.kin kept (thn (args.run pos pins s σ H _ I h) fun _ _ ⟨_, _, I1, r, q⟩ => ⟨I1.kIn, g_runs F room bi dv pass I1 r q⟩) st pl) nd)⟩
theorem g_pe_meth {pl : Sem Bool} (ob : PE X o ta) (cl : Cls X.K C) (me : Meth X.K C m f) (F : FnG X.prog X.w X.K X.mg X.base CX k f fd ps sp) (room : RoomG k X.A) (bi : Binds X.K fd ps ds) (dv : Vals dvs ds) (pass : Passes CX X E) (args : PA X (e :: es) t)
    (st : starEach (e :: es) X.env = (false, eval e X.env) :: starEach es X.env := by rfl) (sp_ : (backTo pos (starEach es X.env)).any (·.1) = false := by rfl)
    (arm : eval (.Call (.Attribute o m apos) (e :: es) [] pos) X.env = (do
      let r ← eval o X.env
      standAt apos.atName
      let (g, first) ← holding [r] (getMethod r m pl)
      callWith pos g first (backTo pos (starEach (e :: es) X.env)) (backToKw pos (keywordEach [] X.env))) := by rfl) :
    PE X (.Call (.Attribute o m apos) (e :: es) [] pos) (tMeth C m sp dvs E ta t) := ⟨fun pins s σ H Q I h => by
  refine PySem.W.methodCall_KW (pl := pl) (thn (ob.run pins s σ H _ I h) ?_) arm
  rintro u s1 ⟨_, H1, I1, rx, a, dx, fs, rfl, at_, no, q⟩
  obtain rfl : u = Value.ref a := rx
  exact getmeth_ok I1 at_ cl me no (PySem.W.callWith_K (first := [.ref a]) (h₀ := X.base) I.ok.mod.kin me.kp (thn (args.run pos pins s1 σ H1 _ I1 q) fun us _ ⟨vs, _, I2, r, q2⟩ => ⟨I2.kIn, g_runs (us := .ref a :: us) (vs := .ref a :: vs) F room bi dv pass I2 (.cons rfl r) q2⟩) st sp_)⟩
theorem g_pe_meth0 {pl : Sem Bool} (ob : PE X o ta) (cl : Cls X.K C) (me : Meth X.K C m f) (F : FnG X.prog X.w X.K X.mg X.base CX k f fd ps sp) (room : RoomG k X.A) (bi : Binds X.K fd ps ds) (dv : Vals dvs ds) (pass : Passes CX X E)
    (arm : eval (.Call (.Attribute o m apos) [] [] pos) X.env = (do
      let r ← eval o X.env
      standAt apos.atName
      let (g, first) ← holding [r] (getMethod r m pl)
      callWith pos g first (backTo pos (starEach [] X.env)) (backToKw pos (keywordEach [] X.env))) := by rfl) :
    PE X (.Call (.Attribute o m apos) [] [] pos) (tMeth C m sp dvs E ta tNil) := ⟨fun pins s σ H Q I h => by
  refine PySem.W.methodCall_KW (pl := pl) (thn (ob.run pins s σ H _ I h) ?_) arm
  rintro u s1 ⟨_, H1, I1, rx, a, dx, fs, rfl, at_, no, q⟩
  obtain rfl : u = Value.ref a := rx
  exact getmeth_ok I1 at_ cl me no (PySem.W.callWith_K0 (first := [.ref a]) I1.kIn me.kp (g_runs (us := [.ref a]) (vs := [.ref a]) F room bi dv pass I1 (.cons rfl .nil) q))⟩
/-- a class is made -/
theorem g_makes (M : Mk X.K C f) (F : FnG X.prog X.w X.K X.mg X.base CX k f fd ps sp) (room : RoomG (k + 1) X.A) (bi : Binds X.K fd ps ds) (dv : Vals dvs ds) (pass : Passes CX X E) (I : Inv X pins σ H s) (rv : Vals vs us)
    (pr : ∀ x dx, H x = none → H dx = none → dx ≠ x → sp (.ref x :: (vs ++ dvs)) (upd (upd H dx (.own x)) x (.ins C dx [])) (fun v H2 => v = .non ∧ Q (.ref x) H2) E) :
    wpAny (model X.prog X.w) X.A (call (.ref C) us) (EP X pins σ Q) X.xe s := by
  have J := Inv.made (C := C) I
  have z := pr _ _ (I.hok.fresh (Nat.le_succ s.heap.objs.size)) (I.hok.fresh (Nat.le_refl s.heap.objs.size)) (Nat.ne_of_lt (Nat.lt_succ_self _))
  have whole : Vals (V.ref (s.heap.objs.size + 1) :: (vs ++ dvs)) (Value.ref (s.heap.objs.size + 1) :: (us ++ ds)) := .cons rfl (rv.append dv)
  have n : ((Value.ref (s.heap.objs.size + 1) :: us) ++ ds).length = ps.length := whole.length.symm.trans (F.len _ _ _ _ z)
  refine wpAny_call (make_map (f := f) I.kIn M.makes M.init (beq_iff_eq.mp M.fn) (codeAny_mono (F.run _ _ _ _ _ _ _ _ _ (room.make C us) (J.env0.make C us []) (bi _ _ J.kIn n) whole z) ?_))
  intro end_ s' h
  match end_, h with
  | .error _, h => exact pass _ _ _ _ _ _ J h
  | .ok (.ret _), h =>
    obtain ⟨v, H', J', rv', rfl, q'⟩ := J.after h
    exact ⟨rv', V.ref (s.heap.objs.size + 1), H', J', rfl, q'⟩
theorem g_pe_make (M : Mk X.K C f) (F : FnG X.prog X.w X.K X.mg X.base CX k f fd ps sp) (room : RoomG (k + 1) X.A) (gl : Gl X x) (at_ : X.mg x = some (.ref C)) (bi : Binds X.K fd ps ds) (dv : Vals dvs ds) (pass : Passes CX X E) (args : PA X (e :: es) t)
    (nd : (x == ("__debug__" : Str)) = false := by decide) (st : starEach (e :: es) X.env = (false, eval e X.env) :: starEach es X.env := by rfl) (pl : (backTo pos (starEach es X.env)).any (·.1) = false := by rfl) :
    PE X (.Call (.Name x p) (e :: es) [] pos) (tMake C sp dvs E t) := ⟨fun pins s σ H Q I h =>
  wpAny_Call_Name_kw (ld_glob I gl at_ (PySem.W.callWith_K (h₀ := X.base) I.ok.mod.kin M.kp (thn (args.run pos pins s σ H _ I h) fun _ _ ⟨_, _, I1, r, q⟩ => ⟨I1.kIn, g_makes M F room bi dv pass I1 r q⟩) st pl) nd)⟩
end
section
variable {P : Program} {w : World} {K : PySem.W.Frag} {mg : Str → Option Value} {base : Heap} {CX : CXT} {k : Nat} {x qual : Str} {params : Arguments} {body : List Stmt} {scope : Scope} {dvs : List V} {kws : List (Str × V)} {f : Addr} {fd : FuncData} {N ps : List Str} {sp : Sp}
/-- a def of the text keeps its promise, by its body -/
theorem g_def (F : FunD K x qual params body scope dvs kws f fd) (S : FnScope N ps scope) (len : ∀ vs H Q E, sp vs H Q E → vs.length = ps.length)
    (inside : ∀ (cdv : Value) (A : Around) (outer : List Env) (s : Shared) (H : Hp) (vs : List V) (Q : VK) (E : XK), RoomG k (A.deeper (envOfC qual scope s.heap.objs.size f cdv)) → sp vs H Q E →
      ∃ t, PSs (cxOf CX P w K mg base N qual scope f cdv A outer s H E) body t ∧ t { nx := fun _ H' => Q .non H', rt := Q } (start N vs) H) : FnG P w K mg base CX (k + 1) f fd ps sp where
  len := len
  run := fun A outer s H args us vs Q E room e0 bi rv pr => by
    obtain ⟨_, _, dV, kV, doc, pm, an, cdv, ct, _, rfl, stands, code, -, -⟩ := F.ex
    have n := len _ _ _ _ pr
    have bs := fun b o e => (e0.bs b o e).1
    have hK : K.In s.heap := e0.mod.kin.keeps bs
    have par : ∀ y ∈ ps.zip us, scope.names.lookup y.1 = some .local ∨ (scope.names.lookup y.1 = some .cell ∧ ((cellsFrom (s.heap.objs.size + 1) scope.names []).lookup y.1).isSome = true) := fun y hy =>
      (S.par y.1 (List.of_mem_zip (show (y.1, y.2) ∈ ps.zip us from hy)).1).imp id fun z => ⟨z, PySem.W.cellsFrom_some _ _ _ (.inl z)⟩
    refine codeAny_call_function room.rm.depth (hK _ _ stands) rfl S.co S.gen rfl (PySem.W.codeRec_of hK code) (bi _ _ _ _ (wpAny_newFunctionEnv_cells S.kind par ?_))
    rintro _ rfl s1 into
    refine ⟨(e0.mod.nolimit.keeps bs).keeps into.toInCall.keep, codeAny_func ?_⟩
    obtain ⟨t, reads, holds⟩ := inside cdv A outer s H vs Q E (room.deeper _) pr
    have I := inv_start (CX := CX) (E := E) (cd := cdv) S room.rm.hd e0 n rv into
    refine wpAny_mono (reads.run [] s1 (start N vs) H _ I holds) ?_ fun _ _ z => z
    intro fl s' z
    match fl, z with
    | .ret _, ⟨v, _, H', J, rr, q⟩ => exact ⟨v, H', J.os, J.bare, J.base, J.hok, rr, q⟩
    | .next, ⟨_, H', J, q⟩ => exact ⟨.non, H', J.os, J.bare, J.base, J.hok, rfl, q⟩
    | .brk, ⟨_, _, _, q⟩ => exact q.elim
    | .cont, ⟨_, _, _, q⟩ => exact q.elim
end
/-! ### the law's end -/
section
variable {P : Program} {w : World} {K : PySem.W.Frag} {mg mb : Str → Option Value} {CX : CXT} {k : Nat} {fa a : Addr} {fd : FuncData} {x : Str} {sp : Sp} {s₁ : Shared} {vs : List Value} {ns : List Int}
/-- the law's call, from an abstract heap that knows nothing but the script -/
theorem g_top {H : Hp} (KX : K.In s₁.heap) (hns : s₁.heap.Ns mainGlobals mg) (hb : s₁.heap.Ns builtinsNs mb) (hbb : ∀ x : Str, x ≠ "__name__" → mb x = bootBuiltins x) (hlim : s₁.heap.NoLimit) (hg : s₁.gens = #[])
    (ha : s₁.heap.get? a = some { cls := .type "list", data := .seq vs.toArray }) (room : RoomG k callerA)
    (F : ∀ base : Heap, K.In base → base.Ns mainGlobals mg → FnG P w K mg base CX k fa fd [x] sp) (bi : ∀ (s : Shared) (u : Value), BindsTo s fd ⟨[u], []⟩ [(x, u)])
    (pr : sp [.ref a] H (fun v _ => v = .bl true) fun _ _ _ => False) (no : ∀ e s', CX [] H s₁ (fun _ _ _ => False) e s' → False)
    (only : Only H) (ok : HOk P w H s₁.heap) (hA : ∀ b, H b ≠ none → b = a) (hK : H a ≠ none → K.lookup a = none) :
    codeAny (model P w) callerA (.call (.ref fa) ⟨[.ref a], []⟩) (fun r s' => r = .ok (.ret (.bool true)) ∧ OldK s₁.heap s'.heap ∧ s'.os = s₁.os ∧ AllBare s'.gens) s₁ := by
  have dictFree : ∀ {b : Addr} {o : Obj} {es : Array DictEntry} {n : Nat}, s₁.heap.get? b = some o → o.data = .dict es n → H b = none := by
    intro b o es n e d
    by_cases z : H b = none
    · exact z
    · obtain rfl := hA b z
      cases ha.symm.trans e
      cases d
  have space : ∀ {b : Addr} {m : Str → Option Value}, s₁.heap.Ns b m → (hidT s₁.heap H).Ns b m := by
    rintro b m ⟨o, es, n, e, d, rest⟩
    exact ⟨o, es, n, hidT_get e (dictFree e d), d, rest⟩
  have mine : K.In (hidT s₁.heap H) := by
    intro b o e
    refine hidT_get (KX b o e) ?_
    by_cases z : H b = none
    · exact z
    · obtain rfl := hA b z
      rw [hK z] at e
      cases e
  have lim : (hidT s₁.heap H).NoLimit := by
    obtain ⟨m, h1, h2⟩ := hlim
    exact ⟨m, space h1, h2⟩
  have e0 : Env0 P w K mg (hidT s₁.heap H) callerA [] s₁ H :=
    { frames := rfl, mod := ⟨mine, space hns, ⟨mb, space hb, hbb⟩, lim⟩, bs := fun _ _ e => of_hidT e, bsz := Nat.le_of_eq (hidT_size _ _), funs := trivial, frf := fun b z => absurd (show b ∈ ([] : List Addr) from z) (by simp), hok := ok, bare := .of_eq hg }
  refine codeAny_mono ((F _ mine (space hns)).run callerA [] s₁ H ⟨[.ref a], []⟩ [.ref a] [.ref a] _ _ room e0 (bi s₁ (.ref a)) (.cons rfl .nil) pr) ?_
  intro end_ s' z
  match end_, z with
  | .error _, z => exact (no _ _ z).elim
  | .ok (.ret u), ⟨v, H', os, bare, un, ok', rr, q⟩ =>
    obtain rfl : v = .bl true := q
    obtain rfl : u = Value.bool true := rr
    refine ⟨rfl, OldK.of_keep fun b o e => ?_, os, bare⟩
    rcases only b with z | ⟨ob, xs, z⟩
    · exact un.keep b o e z (fun y => absurd (show b ∈ ([] : List Addr) from y) (by simp)) (by simp)
    · obtain ⟨y1, -⟩ := ok b _ z
      obtain ⟨y2, -⟩ := ok' b _ (un.frzs b ob _ z)
      cases e.symm.trans y1
      exact y2
theorem g_law (KX : K.In s₁.heap) (hns : s₁.heap.Ns mainGlobals mg) (hb : s₁.heap.Ns builtinsNs mb) (hbb : ∀ x : Str, x ≠ "__name__" → mb x = bootBuiltins x) (hlim : s₁.heap.NoLimit) (hg : s₁.gens = #[])
    (ha : s₁.heap.get? a = some { cls := .type "list", data := .seq vs.toArray }) (hi : IntsAre vs ns) (hl : ns.length ≤ sizeLine) (room : RoomG k callerA)
    (F : ∀ base : Heap, K.In base → base.Ns mainGlobals mg → FnG P w K mg base CX k fa fd [x] sp) (bi : ∀ (s : Shared) (u : Value), BindsTo s fd ⟨[u], []⟩ [(x, u)])
    (pr : ∀ H : Hp, Only H → SqL K H a (ns.map V.int) → sp [.ref a] H (fun v _ => v = .bl true) fun _ _ _ => False) (no : ∀ H e s', CX [] H s₁ (fun _ _ _ => False) e s' → False) :
    codeAny (model P w) callerA (.call (.ref fa) ⟨[.ref a], []⟩) (fun r s' => r = .ok (.ret (.bool true)) ∧ OldK s₁.heap s'.heap ∧ s'.os = s₁.os ∧ AllBare s'.gens) s₁ := by
  have rv := vals_ints hi
  have n := hi.length
  rcases hk : K.lookup a with _ | o
  · let o0 : Obj := { cls := .type "list", data := .seq vs.toArray }
    let H : Hp := fun b => if b = a then some (.frz o0 (.lst (ns.map V.int))) else none
    have Ha : H a = some (.frz o0 (.lst (ns.map V.int))) := if_pos rfl
    have Hn : ∀ b, b ≠ a → H b = none := fun b z => if_neg z
    have only : Only H := fun b => if z : b = a then .inr ⟨o0, ns.map V.int, by rw [z]; exact Ha⟩ else .inl (Hn b z)
    refine g_top (H := H) KX hns hb hbb hlim hg ha room F bi (pr H only (.inl (.inr ⟨o0, Ha⟩))) (no H) only ?_ (fun b z => ?_) fun _ => hk
    · intro b u z
      by_cases y : b = a
      · subst y
        cases Ha.symm.trans z
        exact ⟨ha, by rw [List.length_map]; exact hl, vs, _, rv, ha⟩
      · cases (Hn b y).symm.trans z
    · by_cases y : b = a
      · exact y
      · exact absurd (Hn b y) z
  · cases (KX a o hk).symm.trans ha
    have only : Only fun _ => none := fun _ => .inl rfl
    exact g_top (H := fun _ => none) KX hns hb hbb hlim hg ha room F bi (pr _ only (.inr ⟨_, vs.toArray, _, hk, rfl, rfl, rfl, by rw [List.size_toArray, n]; exact hl, by simpa using rv⟩)) (no _) only (fun b u z => nomatch (show (none : Option HO) = some u from z)) (fun b z => absurd rfl z) fun z => absurd rfl z
end
/-- a law, of defs that are run while no display goes on -/
theorem g_walk {l : PySem.W.OpenLaw} {n k : Nat} {q : Program} {loose : List Str} {XP : (Str → Option Value) → Heap → Prop} {YP : World → Heap → Prop} {d : DefRec} {CX : CXT} {x : Str} (hn : l.most = some n) (hn2 : n ≤ sizeLine) (hdf : d.params.defaults = []) (room : Room k callerA)
    (F : ∀ (w : World) (mg : Str → Option Value) (fa : Addr) (h : Heap), YP w h → h.Ns mainGlobals mg → mg d.name = some (.ref fa) →
      ∃ (K : PySem.W.Frag) (fd : FuncData) (sp : Sp), K.In h ∧ (∀ (s : Shared) (u : Value), BindsTo s fd ⟨[u], []⟩ [(x, u)]) ∧
        (∀ (H : Hp) (a : Addr) (ns : List Int), ns.length ≤ n → Only H → SqL K H a (ns.map V.int) → sp [.ref a] H (fun v _ => v = .bl true) fun _ _ _ => False) ∧ ∀ base : Heap, K.In base → base.Ns mainGlobals mg → FnG l.prog w K mg base CX k fa fd [x] sp)
    (no : ∀ (H : Hp) (s : Shared) (e : Value) (s' : Shared), CX [] H s (fun _ _ _ => False) e s' → False) : PySem.W.WalkO q loose XP YP l.row.toRowW d [] (fun f vs => PySem.call f vs) := by
  refine Att.attach_call hn hdf ?_
  intro w s₀ s₁ mg mb fa o pm cd doc a vs ns G Y ho hd hcd hmg hobj hints hlen hg
  obtain ⟨K, fd, sp, KX, bi, pr, hF⟩ := F w mg fa _ Y G.T.g hmg
  exact g_law KX G.T.g G.T.b G.T.builtins G.T.nolimit hg hobj hints (Nat.le_trans hlen hn2) ⟨room, rfl⟩ hF bi (fun H => pr H a ns hlen) (fun H => no H s₁)
/-! ### repr of data -/
/-- repr(x) of data -/
def rReprD (K : PySem.W.Frag) : List V → Hp → VK → Prop := fun vs H Q => ∃ x d, vs = [x] ∧ Dp K H x d ∧ d.showable = true ∧ d.hasDict = false ∧ d.depth ≤ 60 ∧ d.shown.length ≤ sizeLine ∧ Q (.str d.shown) H
/-! ### a def that may be called by its name, a class that may be made, a method -/
structure Cal (P : Program) (w : World) (K : PySem.W.Frag) (mg : Str → Option Value) (base : Heap) (CX : CXT) (k : Nat) (x : Str) (sp : Sp) (dvs : List V) : Prop where
  ex : ∃ (f : Addr) (fd : FuncData) (ps : List Str) (ds : List Value), FnG P w K mg base CX k f fd ps sp ∧ mg x = some (.ref f) ∧ PySem.W.keepIn K (.ref f) = true ∧ Binds K fd ps ds ∧ Vals dvs ds
structure Mak (P : Program) (w : World) (K : PySem.W.Frag) (mg : Str → Option Value) (base : Heap) (CX : CXT) (k : Nat) (x : Str) (C : Addr) (sp : Sp) (dvs : List V) : Prop where
  ex : ∃ (f : Addr) (fd : FuncData) (ps : List Str) (ds : List Value), Mk K C f ∧ FnG P w K mg base CX k f fd ps sp ∧ mg x = some (.ref C) ∧ Binds K fd ps ds ∧ Vals dvs ds
structure Met (P : Program) (w : World) (K : PySem.W.Frag) (mg : Str → Option Value) (base : Heap) (CX : CXT) (k : Nat) (C : Addr) (m : Str) (sp : Sp) (dvs : List V) : Prop where
  ex : ∃ (f : Addr) (fd : FuncData) (ps : List Str) (ds : List Value), Cls K C ∧ Meth K C m f ∧ FnG P w K mg base CX k f fd ps sp ∧ Binds K fd ps ds ∧ Vals dvs ds
section
variable {X : Cx} {CX : CXT} {E : XK} {k j : Nat} {C : Addr} {x m : Str} {sp : Sp} {dvs : List V} {p pos apos : Pos} {e o : Expr} {es : List Expr} {ta : TE} {t : TA}
theorem pe_c (c : Cal X.prog X.w X.K X.mg X.base CX k x sp dvs) (hr : RoomG j X.A) (hk : k ≤ j) (hg : Gl X x) (hx : Passes CX X E) (ha : PA X (e :: es) t)
    (hdb : (x == ("__debug__" : Str)) = false := by decide) (he : starEach (e :: es) X.env = (false, eval e X.env) :: starEach es X.env := by rfl) (hpl : (backTo pos (starEach es X.env)).any (·.1) = false := by rfl) :
    PE X (.Call (.Name x p) (e :: es) [] pos) (tCall sp dvs E t) := by
  obtain ⟨f, fd, ps, ds, F, hm, kp, b, d⟩ := c.ex
  exact g_pe_call F (hr.mono hk) hg hm kp b d hx ha hdb he hpl
theorem pe_k (c : Mak X.prog X.w X.K X.mg X.base CX k x C sp dvs) (hr : RoomG j X.A) (hk : k + 1 ≤ j) (hg : Gl X x) (hx : Passes CX X E) (ha : PA X (e :: es) t)
    (hdb : (x == ("__debug__" : Str)) = false := by decide) (he : starEach (e :: es) X.env = (false, eval e X.env) :: starEach es X.env := by rfl) (hpl : (backTo pos (starEach es X.env)).any (·.1) = false := by rfl) :
    PE X (.Call (.Name x p) (e :: es) [] pos) (tMake C sp dvs E t) := by
  obtain ⟨f, fd, ps, ds, M, F, hm, b, d⟩ := c.ex
  exact g_pe_make M F (hr.mono hk) hg hm b d hx ha hdb he hpl
theorem pe_m {pl : Sem Bool} (c : Met X.prog X.w X.K X.mg X.base CX k C m sp dvs) (hr : RoomG j X.A) (hk : k ≤ j) (hx : Passes CX X E) (he : PE X o ta) (ha : PA X (e :: es) t)
    (hst : starEach (e :: es) X.env = (false, eval e X.env) :: starEach es X.env := by rfl) (hpl : (backTo pos (starEach es X.env)).any (·.1) = false := by rfl)
    (ht : eval (.Call (.Attribute o m apos) (e :: es) [] pos) X.env = (do
      let ov ← eval o X.env
      standAt apos.atName
      let (f, first) ← holding [ov] (getMethod ov m pl)
      callWith pos f first (backTo pos (starEach (e :: es) X.env)) (backToKw pos (keywordEach [] X.env))) := by rfl) :
    PE X (.Call (.Attribute o m apos) (e :: es) [] pos) (tMeth C m sp dvs E ta t) := by
  obtain ⟨f, fd, ps, ds, hc, hm, F, b, d⟩ := c.ex
  exact g_pe_meth (pl := pl) he hc hm F (hr.mono hk) b d hx ha hst hpl ht
theorem pe_m0 {pl : Sem Bool} (c : Met X.prog X.w X.K X.mg X.base CX k C m sp dvs) (hr : RoomG j X.A) (hk : k ≤ j) (hx : Passes CX X E) (he : PE X o ta)
    (ht : eval (.Call (.Attribute o m apos) [] [] pos) X.env = (do
      let ov ← eval o X.env
      standAt apos.atName
      let (f, first) ← holding [ov] (getMethod ov m pl)
      callWith pos f first (backTo pos (starEach [] X.env)) (backToKw pos (keywordEach [] X.env))) := by rfl) :
    PE X (.Call (.Attribute o m apos) [] [] pos) (tMeth C m sp dvs E ta tNil) := by
  obtain ⟨f, fd, ps, ds, hc, hm, F, b, d⟩ := c.ex
  exact g_pe_meth0 (pl := pl) he hc hm F (hr.mono hk) b d hx ht
end
section
open PySem PySem.W PySem.Calls PyProof.Rows
set_option maxRecDepth 100000 in
open PySem PySem.Spec PyProof.Rows L2 in
set_option maxHeartbeats 0 in
theorem early (S : PySem.W.Frag → Sp) (ask : ∀ (K : PySem.W.Frag), YHd.ex K = true → ∀ (H : L2.Hp) (a : Addr) (ns : List Int), ns.length ≤ 63 → Only H → L2.SqL K H a (ns.map L2.V.int) → S K [.ref a] H (fun v _ => v = .bl true) fun _ _ _ => False)
    (facts : ∀ {P : Program} {w : World} {K : PySem.W.Frag} {h : Heap} {mg : PySem.Str → Option Value} {f : Addr}, K.In h → h.Ns mainGlobals mg → mg ("law" : PySem.Str) = some (.ref f) → He.SaysD YHd.fa YHd.fn K → ∃ fd : FuncData, (∀ (s : Shared) (v : Value), BindsTo s fd ⟨[v], []⟩ [("_law_script", v)]) ∧ ∀ base : Heap, K.In base → base.Ns mainGlobals mg → FnG P w K mg base L2.CX0 12 f fd ["_law_script"] (S K)) : PySem.Challenge.rw_stayprice_k81_a_fresh_inn.Holds := by
  w_on; o_law
  refine HandSHeadRun.head_any (r := OpenLaw.row PySem.Challenge.rw_stayprice_k81_a_fresh_inn) (q := view (OpenLaw.row PySem.Challenge.rw_stayprice_k81_a_fresh_inn).prog [75]) (H := YHd.hk) (ob := YHd.ob) (M := 7500) (loose := YHd.loose) (d := HandSHeadRun.topDef (OpenLaw.row PySem.Challenge.rw_stayprice_k81_a_fresh_inn).prog 75) (kwd := []) YHd.ob_eq
    (by kernel_rfl) (fun s => by kernel_rfl) YHd.run (by kernel_rfl) (by kernel_rfl) (by kernel_rfl) (by rfl) (by first | assumption | decide +kernel) (by decide +kernel) ⟨rfl, rfl, rfl, rfl, rfl, by decide +kernel⟩ ?hw ?hc
  case hw => w_witness2
  case hc =>
    refine Y.g_walk (l := PySem.Challenge.rw_stayprice_k81_a_fresh_inn) (n := 63) (k := 12) (x := "_law_script") (CX := L2.CX0) rfl (by decide) (by kernel_rfl) ⟨rfl, by decide, by decide⟩ ?F (fun _ _ _ _ z => z)
    intro w mg fa h Y G hmg0
    obtain ⟨K, KX, c⟩ := Y
    have hmg : mg ("law" : PySem.Str) = some (.ref fa) := by
      have e : (HandSHeadRun.topDef (OpenLaw.row PySem.Challenge.rw_stayprice_k81_a_fresh_inn).prog 75).name = ("law" : PySem.Str) := by kernel_rfl
      rw [← e]
      exact hmg0
    obtain ⟨fd, hb, hF⟩ := facts (P := (PySem.Challenge.rw_stayprice_k81_a_fresh_inn).prog) (w := w) KX G hmg c.1
    exact ⟨K, fd, S K, KX, hb, fun H a ns hl ho hS => ask K c.2 H a ns hl ho hS, hF⟩
end
/-! YD: data (lists, tuples, numbers, truths, texts, None) and their ==. -/
open PySem PySem.Spec PyProof.Rows L2
mutual
theorem eqv_same : ∀ d : PyData, d.canLay0 = true → PyData.eqv d d = true
  | .none, _ => rfl
  | .bool b, _ => by simp [PyData.eqv]
  | .int i, _ => by simp [PyData.eqv]
  | .str x, _ => by simp [PyData.eqv]
  | .list xs, h => by rw [PyData.eqv]; exact eqv_sameAll xs (by simpa [PyData.canLay0] using h)
  | .tuple xs, h => by rw [PyData.eqv]; exact eqv_sameAll xs (by simpa [PyData.canLay0] using h)
  | .dict _, h => by simp [PyData.canLay0] at h
theorem eqv_sameAll : ∀ xs : List PyData, PyData.canLayAll0 xs = true → PyData.eqvAll xs xs = true
  | [], _ => rfl
  | x :: xs, h => by
    have h' : x.canLay0 = true ∧ PyData.canLayAll0 xs = true := by simpa [PyData.canLayAll0] using h
    rw [PyData.eqvAll, eqv_same x h'.1, eqv_sameAll xs h'.2]; rfl
end
theorem shaped_of {d : PyData} (h : d.canLay0 = true) (k : d.depth ≤ 64) : SeqAt.shaped d = true := by
  unfold SeqAt.shaped
  rw [h, decide_eq_true k]; rfl
theorem canLay_all {xs : List PyData} (h : ∀ x ∈ xs, x.canLay0 = true) : PyData.canLayAll0 xs = true := by
  induction xs with
  | nil => rfl
  | cons x r ih => rw [PyData.canLayAll0, h x (by simp), ih fun y hy => h y (by simp [hy])]; rfl
theorem depth_all {xs : List PyData} {n : Nat} (h : ∀ x ∈ xs, x.depth ≤ n) : PyData.depthAll xs ≤ n := by
  induction xs with
  | nil => exact Nat.zero_le _
  | cons x r ih =>
    rw [PyData.depthAll]
    exact Nat.max_le.mpr ⟨h x (by simp), ih fun y hy => h y (by simp [hy])⟩
/-- data that stand at most so deep -/
def Sh (n : Nat) (d : PyData) : Prop := d.canLay0 = true ∧ d.depth ≤ n
theorem Sh.ok {n : Nat} {d : PyData} (h : Sh n d) (k : n ≤ 64) : SeqAt.shaped d = true := shaped_of h.1 (Nat.le_trans h.2 k)
theorem sh_int (i : Int) (n : Nat) : Sh n (.int i) := ⟨by simp [PyData.canLay0], by simp [PyData.depth]⟩
theorem sh_bl (b : Bool) (n : Nat) : Sh n (.bool b) := ⟨by simp [PyData.canLay0], by simp [PyData.depth]⟩
theorem sh_non (n : Nat) : Sh n .none := ⟨by simp [PyData.canLay0], by simp [PyData.depth]⟩
theorem sh_str {x : Str} (h : PyData.strOk x = true) (n : Nat) : Sh n (.str x) := ⟨by simpa [PyData.canLay0] using h, by simp [PyData.depth]⟩
theorem sh_lst {n : Nat} {xs : List PyData} (h : ∀ x ∈ xs, Sh n x) : Sh (n + 1) (.list xs) :=
  ⟨by rw [PyData.canLay0]; exact canLay_all fun x hx => (h x hx).1, by rw [PyData.depth]; exact Nat.succ_le_succ (depth_all fun x hx => (h x hx).2)⟩
theorem sh_tup {n : Nat} {xs : List PyData} (h : ∀ x ∈ xs, Sh n x) : Sh (n + 1) (.tuple xs) :=
  ⟨by rw [PyData.canLay0]; exact canLay_all fun x hx => (h x hx).1, by rw [PyData.depth]; exact Nat.succ_le_succ (depth_all fun x hx => (h x hx).2)⟩
/-! ### lists of whole numbers, of truths -/
section
variable {K : PySem.W.Frag} {H : Hp} {Q : VK} {p q : Addr} {ns ms : List Int} {x y : V} {d e : PyData} {n : Nat}
/-- alike data -/
theorem g_eqD_same (h : Dp K H x d) (h' : Dp K H y d) (s : Sh n d) (hn : n ≤ 64) (k : Q (.bl true) H) : rEqD K x y H Q :=
  ⟨d, d, h, h', s.ok hn, s.ok hn, by rw [eqv_same d s.1]; exact k⟩
theorem g_neD_same (h : Dp K H x d) (h' : Dp K H y d) (s : Sh n d) (hn : n ≤ 64) (k : Q (.bl false) H) : rNeD K x y H Q :=
  ⟨d, d, h, h', s.ok hn, s.ok hn, by rw [eqv_same d s.1]; exact k⟩
end
/-- the days from c to ahead of g -/
def days (c g : Int) : List Int := (List.range (g - c).toNat).map fun i : Nat => c + (i : Int)
theorem rgV_days (c g : Int) : rgV c g = (days c g).map V.int := by
  unfold rgV days
  rw [List.map_map]
  rfl
/-! YM: lists of stretches, their days, the one rising list of few stretches. -/
open PySem
abbrev Pr : Type := Int × Int
def hasD (ts : List Pr) (d : Int) : Bool := ts.any fun p => decide (p.1 ≤ d) && decide (d ≤ p.2)
/-- each is none of the wrong way round -/
def Up (ts : List Pr) : Prop := ∀ p ∈ ts, p.1 ≤ p.2
/-- rising, a day between each two -/
structure Can (ts : List Pr) : Prop where
  up : Up ts
  gap : ts.Pairwise fun p q => p.2 + 1 < q.1
/-- one turn of the spreading: the last stretch ahead is made longer, or a new one is laid -/
def sprTurn (F : List Pr) (p : Pr) : List Pr := match F.getLast? with
  | some l => if p.1 ≤ l.2 + 1 then F.dropLast ++ [(l.1, max l.2 p.2)] else F ++ [p]
  | none => [p]
/-- what holds between the turns: F is rising, each of its stretches begins no later than what comes -/
structure SprIn (F : List Pr) (seen : List Pr) : Prop where
  can : Can F
  days : ∀ d, hasD F d = hasD seen d
  low : ∀ q ∈ F, ∃ r ∈ seen, q.1 = r.1
theorem snoc_cases {α : Type} : ∀ F : List α, F = [] ∨ ∃ ts l, F = ts ++ [l]
  | [] => .inl rfl
  | x :: xs => .inr ⟨(x :: xs).dropLast, (x :: xs).getLast (by simp), (List.dropLast_concat_getLast (by simp)).symm⟩
/-- what one stretch lacks of another -/
def wo (p q : Pr) : List Pr := (if p.1 < q.1 then [(p.1, min p.2 (q.1 - 1))] else []) ++ if q.2 < p.2 then [(max p.1 (q.2 + 1), p.2)] else []
def OkD (p : Pr) : Prop := 0 ≤ p.1 ∧ p.1 ≤ p.2 ∧ p.2 ≤ 1000000
/-! YT: the law's tape in the heap; tuples that stay. -/
open PySem PySem.Spec PyProof.Rows L2
/-- a row of draws at t: a great number's rest, a stream's last number (the places b and s are t) -/
def Tape (H : Hp) (t b s : Addr) : Prop := t = b ∧ t = s ∧ ∃ a c : Int, H t = some (.lst [.int a, .int c]) ∧ 0 ≤ a ∧ 0 ≤ c ∧ c < 2147483648
theorem tape_lst {H : Hp} {t b s : Addr} (T : Tape H t b s) : (∃ xs, H t = some (.lst xs)) ∧ ∃ xs, H b = some (.lst xs) := by
  obtain ⟨rfl, rfl, a, c, h, -⟩ := T
  exact ⟨⟨_, h⟩, ⟨_, h⟩⟩
theorem log9 {m : Int} (h0 : 0 < m) (h : m < 2 ^ 250) : m.natAbs.log2 < 9000 :=
  Nat.lt_trans (PySem.Flt.log2_lt_of (k := 250) (by decide) (by
    have e : (m.natAbs : Int) = m := by omega
    have h2 : (m.natAbs : Int) < ((2 ^ 250 : Nat) : Int) := by rw [e]; exact h
    exact Int.ofNat_lt.mp h2)) (by decide)
theorem ni_tape {H : Hp} {t b s p : Addr} (hp : Fr H p) (T : Tape H t b s) : p ∉ [t, b] := by
  replace hp : H p = none := hp
  obtain ⟨⟨_, h1⟩, _, h2⟩ := tape_lst T
  intro h
  rcases List.mem_cons.mp h with e | h
  · rw [e, h1] at hp; cases hp
  · rw [List.mem_singleton.mp h, h2] at hp; cases hp
theorem tape_same {H H' : Hp} {t b s : Addr} (e : Same H H') (T : Tape H t b s) : Tape H' t b s := by
  obtain ⟨n1, n2, a, c, h, z⟩ := T
  exact ⟨n1, n2, a, c, e _ _ h, z⟩
theorem tape_new {H : Hp} {t b s p : Addr} {o : HO} (hp : Fr H p) (T : Tape H t b s) : Tape (upd H p o) t b s := tape_same (same_new hp) T
theorem tape_own {H H0 : Hp} {t b s p : Addr} {o : HO} (hp : Fr H0 p) (T0 : Tape H0 t b s) (T : Tape H t b s) : Tape (upd H p o) t b s := by
  obtain ⟨n1, n2, a, c, h, z⟩ := T
  obtain ⟨_, _, _, _, k, _⟩ := T0
  exact ⟨n1, n2, a, c, at_ne (ne_of_none k hp) h, z⟩
/-- the tuples stay -/
def Tk (H H' : Hp) : Prop := ∀ a xs, H a = some (.tup xs) → H' a = some (.tup xs)
theorem Tk.trans {H H1 H2 : Hp} (a : Tk H H1) (b : Tk H1 H2) : Tk H H2 := fun c xs h => b c xs (a c xs h)
theorem Same.tk {H H' : Hp} (e : Same H H') : Tk H H' := fun a xs h => e _ _ h
theorem tk_new {H : Hp} {p : Addr} {o : HO} (h : Fr H p) : Tk H (upd H p o) := Same.tk (same_new h)
theorem tk_put {H : Hp} {p : Addr} {o : HO} {zs : List V} (h : H p = some (.lst zs)) : Tk H (upd H p o) := fun a xs e => at_ne (fun z => by rw [z, h] at e; cases e) e
theorem tk_kp {H H' : Hp} {t b s : Addr} (T : Tape H t b s) (k : Kp [t, b] H H') : Tk H H' := fun a xs e => k a _ e fun m => by
  obtain ⟨⟨_, h1⟩, _, h2⟩ := tape_lst T
  rcases List.mem_cons.mp m with z | m
  · rw [z, h1] at e; cases e
  · rw [List.mem_singleton.mp m, h2] at e; cases e
theorem at_tk {H H' : Hp} {t b s a : Addr} {xs : List V} (k : Kp [t, b] H H') (T : Tape H t b s) (h : H a = some (.tup xs)) : H' a = some (.tup xs) := tk_kp T k a xs h
theorem g_pk2 {K : PySem.W.Frag} {H : Hp} {Q : VK} {p : Addr} {xs : List V} {a b w : Int} (h : H p = some (.lst xs)) (hxs : xs = [.int a, .int b]) (h0 : 0 ≤ w) (h1 : w < 2) (q : ∀ v : Int, v = a ∨ v = b → Q (.int v) H) : rIxL K (.ref p) (.int w) H Q := by
  subst hxs
  exact g_pick2 (SqL.of h) h0 h1 q
theorem g_pk4 {K : PySem.W.Frag} {H : Hp} {Q : VK} {p : Addr} {xs : List V} {a b c d w : Int} (h : H p = some (.lst xs)) (hxs : xs = [.int a, .int b, .int c, .int d]) (h0 : 0 ≤ w) (h1 : w < 4) (q : ∀ v : Int, v = a ∨ v = b ∨ v = c ∨ v = d → Q (.int v) H) : rIxL K (.ref p) (.int w) H Q := by
  subst hxs
  exact g_pick4 (SqL.of h) h0 h1 q
theorem g_pk5 {K : PySem.W.Frag} {H : Hp} {Q : VK} {p : Addr} {xs : List V} {a b c d e w : Int} (h : H p = some (.lst xs)) (hxs : xs = [.int a, .int b, .int c, .int d, .int e]) (h0 : 0 ≤ w) (h1 : w < 5) (q : ∀ v : Int, v = a ∨ v = b ∨ v = c ∨ v = d ∨ v = e → Q (.int v) H) : rIxL K (.ref p) (.int w) H Q := by
  subst hxs
  exact g_pick5 (SqL.of h) h0 h1 q
/-! YP: pairs of whole numbers in the heap; comprehensions that make nothing but their list. -/
open PySem PySem.Spec PyProof.Rows L2
/-- v is a tuple of the pair p -/
def PrAt (G : Hp) (v : V) (p : Pr) : Prop := ∃ t, v = .ref t ∧ G t = some (.tup [.int p.1, .int p.2])
abbrev PrsAt (G : Hp) : List V → List Pr → Prop := Paired (PrAt G)
theorem Paired.app {α β : Type} {F : α → β → Prop} : ∀ {as : List α} {bs : List β} {cs : List α} {ds : List β}, Paired F as bs → Paired F cs ds → Paired F (as ++ cs) (bs ++ ds)
  | _, _, _, _, .nil, h => h
  | _, _, _, _, .cons r t, h => .cons r (Paired.app t h)
theorem Paired.snoc {α β : Type} {F : α → β → Prop} {as : List α} {bs : List β} {a : α} {b : β} (h : Paired F as bs) (r : F a b) : Paired F (as ++ [a]) (bs ++ [b]) := Paired.app h (.cons r .nil)
theorem Paired.getL {α β : Type} {F : α → β → Prop} : ∀ {as : List α} {bs : List β} {i : Nat} {a : α}, Paired F as bs → as[i]? = some a → ∃ b, bs[i]? = some b ∧ F a b
  | _, _, _, _, .nil, e => by simp at e
  | _, _, 0, _, .cons r _, e => by simp at e; subst e; exact ⟨_, rfl, r⟩
  | _, _, i + 1, a, .cons r t, e => by
    obtain ⟨b, h1, h2⟩ := Paired.getL (i := i) t (by simpa using e)
    exact ⟨b, by simpa using h1, h2⟩
theorem Paired.snocR {α β : Type} {F : α → β → Prop} {bs : List β} {b : β} : ∀ {cs : List α}, Paired F cs (bs ++ [b]) → ∃ as a, cs = as ++ [a] ∧ Paired F as bs ∧ F a b := by
  induction bs with
  | nil =>
    intro cs h
    cases h with
    | cons r t => cases t; exact ⟨[], _, rfl, .nil, r⟩
  | cons x xs ih =>
    intro cs h
    cases h with
    | cons r t =>
      obtain ⟨as, a, rfl, h1, h2⟩ := ih t
      exact ⟨_ :: as, a, rfl, .cons r h1, h2⟩
/-- the pair that stands at a value -/
def kOf (G : Hp) : V → Pr
  | .ref t => match G t with
    | some (.tup [.int i, .int j]) => (i, j)
    | _ => (0, 0)
  | _ => (0, 0)
theorem pr_tk {G G' : Hp} {v : V} {p : Pr} (e : Tk G G') (h : PrAt G v p) : PrAt G' v p := let ⟨t, a, b⟩ := h; ⟨t, a, e _ _ b⟩
theorem prs_tk {G G' : Hp} {xs : List V} {ts : List Pr} (e : Tk G G') (h : PrsAt G xs ts) : PrsAt G' xs ts := Paired.mapP h fun _ _ q => pr_tk e q
theorem prs_same {H H' : Hp} {xs : List V} {ts : List Pr} (e : Same H H') (h : PrsAt H xs ts) : PrsAt H' xs ts := prs_tk (Same.tk e) h
theorem pr_new {H : Hp} {v : V} {q : Pr} {p : Addr} {o : HO} (hp : Fr H p) (h : PrAt H v q) : PrAt (upd H p o) v q := pr_tk (tk_new hp) h
theorem pr_same {H H' : Hp} {v : V} {q : Pr} (e : Same H H') (h : PrAt H v q) : PrAt H' v q := pr_tk (Same.tk e) h
/-! ### as data -/
def prD (p : Pr) : PyData := .tuple [.int p.1, .int p.2]
theorem dp_pr {K : PySem.W.Frag} {H : Hp} {v : V} {p : Pr} (h : PrAt H v p) : Dp K H v (prD p) := by
  obtain ⟨t, rfl, e⟩ := h
  exact .tup (SqT.of e) (.cons (.int _) (.cons (.int _) .nil))
theorem eqv_pr (p q : Pr) : PyData.eqv (prD p) (prD q) = decide (p = q) := by
  unfold prD
  rw [PyData.eqv, PyData.eqvAll, PyData.eqvAll, PyData.eqvAll, PyData.eqv, PyData.eqv, Bool.eq_iff_iff]
  simp [Prod.ext_iff]
section
variable {K : PySem.W.Frag} {H : Hp} {Q : VK} {p q : Addr} {xs ys : List V} {ts us : List Pr}
end
theorem jn {t u : TS} {D : Ends} {σ : L2.St} {H : Hp} (P : L2.St → Hp → Prop) (k : ∀ σ H, P σ H → u D σ H) (h : ∀ N : L2.St → Hp → Prop, (∀ σ H, P σ H → N σ H) → t { D with nx := N } σ H) : tSeq t u D σ H := h (u D) k
theorem mxi (i j : Int) : (if j > i then j else i) = max i j := by
  split <;> omega
theorem mni (i j : Int) : (if j < i then j else i) = min i j := by
  split <;> omega
/-! ### comprehensions that make nothing but their list -/
theorem lc_leaf {H1 : Hp} {D : Addr} {acc : List V} {y : V} {N : Hp → Prop} {i : Nat} (hl : acc.length ≤ i) (hi : i < 100000) (hN : N (upd H1 D (.lst (acc ++ [y])))) :
    ∃ acc', upd H1 D (.lst acc) D = some (.lst acc') ∧ acc'.length < sizeLine ∧ N (upd (upd H1 D (.lst acc)) D (.lst (acc' ++ [y]))) :=
  ⟨acc, upd_same, by rw [sizeLine_eq]; omega, by rw [upd_upd]; exact hN⟩
theorem lc_flt {K : PySem.W.Frag} {a : Addr} {xs : List V} {g : TG} {tt : TT} {te : TE} {vs : List Nat} {σ : L2.St} {H1 : Hp} {Qf : Addr → Hp → Prop} (f : V → Option V) (hx : SqL K H1 a xs) (hz : xs.length < 100000)
    (hs : ∀ (D : Addr) i x (N : Hp → Prop) acc, Fr H1 D → i < 100000 → xs[i]? = some x → acc.length ≤ i → (∀ y, f x = some y → N (upd H1 D (.lst (acc ++ [y])))) → (f x = none → N (upd H1 D (.lst acc))) →
      g x (wipe σ vs) (upd H1 D (.lst acc)) fun σ2 H2 => wipe σ2 vs = wipe σ vs ∧ tt σ2 H2 fun b H3 =>
        if b = true then te σ2 H3 fun y H4 => ∃ acc, H4 D = some (.lst acc) ∧ acc.length < sizeLine ∧ N (upd H4 D (.lst (acc ++ [y]))) else N H3)
    (hd : ∀ D, Fr H1 D → Qf D (upd H1 D (.lst (xs.filterMap f)))) :
    ∀ D, Fr H1 D → ∃ W : Nat → Nat → Hp → Prop, (∃ m, W 0 m (upd H1 D (.lst []))) ∧ ∀ i m H, W i m H →
      ((Itl K a).stop i H ∧ Qf D H) ∨ ((Itl K a).go i H ∧ ∃ Nx : Hp → Prop, (∀ H', Nx H' → ∃ m', m' < m ∧ W (i + 1) m' H') ∧ ∀ x H', (Itl K a).yld i H x H' → g x (wipe σ vs) H' fun σ2 H2 => wipe σ2 vs = wipe σ vs ∧ tt σ2 H2 fun b H3 =>
        if b = true then te σ2 H3 fun y H4 => ∃ acc, H4 D = some (.lst acc) ∧ acc.length < sizeLine ∧ Nx (upd H4 D (.lst (acc ++ [y]))) else Nx H3) := fun D hD => by
  refine lc_list (K := K) (a := a) (xs := xs) (fun i H => H = upd H1 D (.lst ((xs.take i).filterMap f))) rfl (fun i H _ e => by rw [e]; exact (same_new hD).seq hx) (fun i x H hi e => ?_) fun H e => by rw [e, List.take_length]; exact hd D hD
  subst e
  have hi' := (List.getElem?_eq_some_iff.mp hi).1
  refine hs D i x _ _ hD (by omega) hi (Nat.le_trans (List.length_filterMap_le ..) (by rw [List.length_take]; omega)) (fun y hy => ?_) fun hy => ?_
  · rw [List.take_add_one, hi, List.filterMap_append]
    simp [hy]
  · rw [List.take_add_one, hi, List.filterMap_append]
    simp [hy]
/-! ### comprehensions whose parts may make new things -/
theorem lc_w {J : It} {n : Nat} {G : Hp → Prop} {Y : Nat → Hp → V → Hp → Prop} (w : Walk J n G Y) {g : TG} {tt : TT} {te : TE} {vs : List Nat} {σ : L2.St} {H1 : Hp} {Qf : Addr → Hp → Prop} (f : Nat → Option V) (hn : n < 100000) (hG : ∀ H, Same H1 H → G H)
    (hs : ∀ (D : Addr) i x H H' (N : Hp → Prop), Fr H1 D → i < n → Same H1 H → Y i H x H' → (∀ y H4, f i = some y → Same H H4 → ∃ acc, H4 D = some (.lst acc) ∧ acc.length < sizeLine ∧ N (upd H4 D (.lst (acc ++ [y])))) → (∀ H4, f i = none → Same H H4 → N H4) →
      g x (wipe σ vs) H' fun σ2 H2 => wipe σ2 vs = wipe σ vs ∧ tt σ2 H2 fun b H3 =>
        if b = true then te σ2 H3 fun y H4 => ∃ acc, H4 D = some (.lst acc) ∧ acc.length < sizeLine ∧ N (upd H4 D (.lst (acc ++ [y]))) else N H3)
    (hd : ∀ D H', Fr H1 D → Same H1 H' → H' D = some (.lst ((List.range n).filterMap f)) → Qf D H') :
    ∀ D, Fr H1 D → ∃ W : Nat → Nat → Hp → Prop, (∃ m, W 0 m (upd H1 D (.lst []))) ∧ ∀ i m H, W i m H →
      (J.stop i H ∧ Qf D H) ∨ (J.go i H ∧ ∃ Nx : Hp → Prop, (∀ H', Nx H' → ∃ m', m' < m ∧ W (i + 1) m' H') ∧ ∀ x H', J.yld i H x H' → g x (wipe σ vs) H' fun σ2 H2 => wipe σ2 vs = wipe σ vs ∧ tt σ2 H2 fun b H3 =>
        if b = true then te σ2 H3 fun y H4 => ∃ acc, H4 D = some (.lst acc) ∧ acc.length < sizeLine ∧ Nx (upd H4 D (.lst (acc ++ [y]))) else Nx H3) := fun D hD => by
  refine lc_it w (fun i H => Same H1 H ∧ H D = some (.lst ((List.range i).filterMap f))) ⟨same_new hD, upd_same⟩ (fun i H _ h => hG H h.1) (fun i x H H' hi h y => ?_) fun H h => hd D H hD h.1 h.2
  have hlen : ((List.range i).filterMap f).length ≤ i := Nat.le_trans (List.length_filterMap_le ..) (by rw [List.length_range]; omega)
  refine hs D i x H H' _ hD hi h.1 y (fun y H4 hy s => ⟨_, s _ _ h.2, by rw [sizeLine_eq]; omega, sm_own hD (h.1.trans s), ?_⟩) fun H4 hy s => ⟨h.1.trans s, ?_⟩
  · rw [upd_same, List.range_succ, List.filterMap_append]
    simp [hy]
  · rw [s _ _ h.2, List.range_succ, List.filterMap_append]
    simp [hy]
theorem range_flt' {α β : Type} (xs : List α) (g : α → Option β) (n : Nat) : (List.range n).filterMap (fun i => (xs[i]?).bind g) = (xs.take n).filterMap g := by
  induction n with
  | zero => simp
  | succ n ih =>
    rw [List.range_succ, List.filterMap_append, ih, List.take_add_one, List.filterMap_append]
    congr 1
    cases e : xs[n]? with
    | none => simp [e]
    | some x => cases e2 : g x <;> simp [e, e2]
theorem range_flt {α β : Type} (xs : List α) (g : α → Option β) : (List.range xs.length).filterMap (fun i => (xs[i]?).bind g) = xs.filterMap g := by
  rw [range_flt', List.take_length]
/-- comprehensions whose items are new tuples, numbers, texts: R stays while the tuples stay -/
theorem lc_r {J : It} {n : Nat} {G : Hp → Prop} {Y : Nat → Hp → V → Hp → Prop} (w : Walk J n G Y) {g : TG} {tt : TT} {te : TE} {vs : List Nat} {σ : L2.St} {H1 : Hp} {Qf : Addr → Hp → Prop} {β : Type} (R : Hp → V → β → Prop) (hR : ∀ G G' v b, Tk G G' → R G v b → R G' v b) (f : Nat → Option β) (hn : n < 100000) (hG : ∀ H, Same H1 H → G H)
    (hs : ∀ (D : Addr) i x H H' (N : Hp → Prop), Fr H1 D → i < n → Same H1 H → Y i H x H' → (∀ y b H4, f i = some b → Same H H4 → R H4 y b → ∃ acc, H4 D = some (.lst acc) ∧ acc.length < sizeLine ∧ N (upd H4 D (.lst (acc ++ [y])))) → (∀ H4, f i = none → Same H H4 → N H4) →
      g x (wipe σ vs) H' fun σ2 H2 => wipe σ2 vs = wipe σ vs ∧ tt σ2 H2 fun b H3 =>
        if b = true then te σ2 H3 fun y H4 => ∃ acc, H4 D = some (.lst acc) ∧ acc.length < sizeLine ∧ N (upd H4 D (.lst (acc ++ [y]))) else N H3)
    (hd : ∀ D H' ys, Fr H1 D → Same H1 H' → H' D = some (.lst ys) → Paired (R H') ys ((List.range n).filterMap f) → Qf D H') :
    ∀ D, Fr H1 D → ∃ W : Nat → Nat → Hp → Prop, (∃ m, W 0 m (upd H1 D (.lst []))) ∧ ∀ i m H, W i m H →
      (J.stop i H ∧ Qf D H) ∨ (J.go i H ∧ ∃ Nx : Hp → Prop, (∀ H', Nx H' → ∃ m', m' < m ∧ W (i + 1) m' H') ∧ ∀ x H', J.yld i H x H' → g x (wipe σ vs) H' fun σ2 H2 => wipe σ2 vs = wipe σ vs ∧ tt σ2 H2 fun b H3 =>
        if b = true then te σ2 H3 fun y H4 => ∃ acc, H4 D = some (.lst acc) ∧ acc.length < sizeLine ∧ Nx (upd H4 D (.lst (acc ++ [y]))) else Nx H3) := fun D hD => by
  refine lc_it w (fun i H => Same H1 H ∧ ∃ acc, H D = some (.lst acc) ∧ Paired (R H) acc ((List.range i).filterMap f)) ⟨same_new hD, [], upd_same, .nil⟩ (fun i H _ h => hG H h.1) (fun i x H H' hi ⟨sm, acc, ha, hp⟩ y => ?_) fun H ⟨sm, acc, ha, hp⟩ => hd D H acc hD sm ha hp
  have hlen : acc.length ≤ i := by
    rw [Paired.length hp]
    exact Nat.le_trans (List.length_filterMap_le ..) (by rw [List.length_range]; omega)
  refine hs D i x H H' _ hD hi sm y (fun y b H4 hb s r => ⟨acc, s _ _ ha, by rw [sizeLine_eq]; omega, sm_own hD (sm.trans s), acc ++ [y], upd_same, ?_⟩) fun H4 hb s => ⟨sm.trans s, acc, s _ _ ha, ?_⟩
  · have tk : Tk H4 (upd H4 D (.lst (acc ++ [y]))) := tk_put (s _ _ ha)
    rw [List.range_succ, List.filterMap_append]
    refine Paired.app (Paired.mapP hp fun _ _ q => hR _ _ _ _ ((Same.tk s).trans tk) q) ?_
    simp only [List.filterMap_cons, hb, List.filterMap_nil]
    exact .cons (hR _ _ _ _ tk r) .nil
  · rw [List.range_succ, List.filterMap_append]
    simp only [List.filterMap_cons, hb, List.filterMap_nil, List.append_nil]
    exact Paired.mapP hp fun _ _ q => hR _ _ _ _ (Same.tk s) q
theorem Paired.take {α β : Type} {F : α → β → Prop} : ∀ (n : Nat) {as : List α} {bs : List β}, Paired F as bs → Paired F (as.take n) (bs.take n)
  | 0, _, _, _ => .nil
  | n + 1, _, _, .nil => .nil
  | n + 1, _, _, .cons r t => .cons r (Paired.take n t)
theorem Paired.drop {α β : Type} {F : α → β → Prop} : ∀ (n : Nat) {as : List α} {bs : List β}, Paired F as bs → Paired F (as.drop n) (bs.drop n)
  | 0, _, _, h => h
  | n + 1, _, _, .nil => .nil
  | n + 1, _, _, .cons r t => Paired.drop n t
/-! Y1 (second family): a row of draws, its draws. -/
open PySem PySem.Spec PyProof.Rows L2
def sp_Ltake (K : PySem.W.Frag) : Sp := Sp2 fun x y H Q E => ∃ (t b s : Addr) (m : Int), x = .ref t ∧ y = .int m ∧ Tape H t b s ∧ 0 < m ∧ m.natAbs.log2 < 9000 ∧
  ∀ (v : Int) (H' : Hp), 0 ≤ v → v < m → Tape H' t b s → Kp [t, b] H H' → Q (.int v) H'
theorem g_take {K : PySem.W.Frag} {t b s : Addr} {m : Int} {H : Hp} {Q : VK} {E : XK} (T : Tape H t b s) (h0 : 0 < m) (h9 : m < 2 ^ 250) (q : ∀ (v : Int) (H' : Hp), 0 ≤ v → v < m → Tape H' t b s → Kp [t, b] H H' → Q (.int v) H') : sp_Ltake K ([.ref t, .int m] ++ []) H Q E :=
  ⟨_, _, rfl, t, b, s, m, rfl, rfl, T, h0, log9 h0 h9, q⟩
def sp_Lbegin (K : PySem.W.Frag) : Sp := Sp1 fun x H Q E => ∃ c : Int, x = .int c ∧ ∀ (t : Addr) (H' : Hp), Same H H' → Fr H t → Tape H' t t t → Q (.ref t) H'
theorem g_begin {K : PySem.W.Frag} {c : Int} {H : Hp} {Q : VK} {E : XK} (q : ∀ (t : Addr) (H' : Hp), Same H H' → Fr H t → Tape H' t t t → Q (.ref t) H') : sp_Lbegin K ([.int c] ++ []) H Q E := ⟨_, rfl, c, rfl, q⟩
def sp_Lcell_at (K : PySem.W.Frag) : Sp := Sp2 fun x y H Q E => ∃ (a : Addr) (ns : List Int) (i : Nat), x = .ref a ∧ y = .int (i : Nat) ∧ SqL K H a (ns.map V.int) ∧ ∀ c : Int, Q (.int c) H
/-! steps: a heap's facts (at), a list's or tuple's (sq), side questions (sd), one step (s1), many (ss) -/
local macro_rules | `(tactic| walk_at "tp") => `(tactic| first
  | with_reducible assumption
  | ((with_reducible refine' $(Lean.mkIdent `Y.tape_new) ?n0 ?n1); (case n0 => with_reducible assumption); (case n1 => walk_at "tp"))
  | ((with_reducible refine' $(Lean.mkIdent `Y.tape_same) ?n0 ?n1); (case n0 => with_reducible assumption); (case n1 => walk_at "tp"))
  | ((with_reducible refine' $(Lean.mkIdent `Y.tape_own) ?n0 ?n1 ?n2); (case n0 => with_reducible assumption); (case n1 => walk_at "tp"); (case n2 => walk_at "tp"))
  | fail)
local macro_rules | `(tactic| walk_at "ni") => `(tactic| first
  | with_reducible assumption
  | ((with_reducible refine' $(Lean.mkIdent `Y.ni_tape) ?n0 ?n1); (case n0 => with_reducible assumption); (case n1 => walk_at "tp"))
  | fail)
local macro_rules | `(tactic| walk_at "at0") => `(tactic| first
  | with_reducible assumption
  | with_reducible exact upd_same
  | ((with_reducible refine' $(Lean.mkIdent `Y.at_new) ?n0 ?n1); (case n0 => with_reducible assumption); (case n1 => walk_at "at0"))
  | ((with_reducible refine' $(Lean.mkIdent `Y.get_same) ?n0 ?n1); (case n0 => with_reducible assumption); (case n1 => walk_at "at0"))
  | ((with_reducible refine' $(Lean.mkIdent `Y.get_kp) ?n0 ?n1 ?n2); (case n0 => with_reducible assumption); (case n1 => walk_at "at0"); (case n2 => walk_at "ni"))
  | fail)
local macro_rules | `(tactic| walk_at "ne") => `(tactic| first
  | assumption
  | exact Ne.symm (by assumption)
  | ((with_reducible refine' $(Lean.mkIdent `Y.ne_new') ?n0 ?n1); (case n0 => with_reducible assumption); (case n1 => walk_at "at"))
  | fail)
local macro_rules | `(tactic| walk_at "sm") => `(tactic| first
  | with_reducible assumption
  | with_reducible exact Same.refl _
  | ((with_reducible refine' $(Lean.mkIdent `Y.sm_new) ?n0 ?n1); (case n0 => with_reducible assumption); (case n1 => walk_at "sm"))
  | ((with_reducible refine' $(Lean.mkIdent `Y.sm_own) ?n0 ?n1); (case n0 => with_reducible assumption); (case n1 => walk_at "sm"))
  | ((with_reducible refine' $(Lean.mkIdent `Y.sm_tr) ?n0 ?n1); (case n0 => with_reducible assumption); (case n1 => walk_at "sm"))
  | fail)
local macro_rules | `(tactic| walk_at "kp") => `(tactic| first
  | with_reducible assumption
  | with_reducible exact $(Lean.mkIdent `Y.Kp.refl) _ _
  | ((with_reducible refine' $(Lean.mkIdent `Y.kp_own) ?n0 ?n1); (case n0 => with_reducible assumption); (case n1 => walk_at "kp"))
  | ((with_reducible refine' $(Lean.mkIdent `Y.kp_new) ?n0 ?n1); (case n0 => with_reducible assumption); (case n1 => walk_at "kp"))
  | ((with_reducible refine' $(Lean.mkIdent `Y.kp_tr) ?n0 ?n1); (case n0 => with_reducible assumption); (case n1 => walk_at "kp"))
  | fail)
local macro_rules | `(tactic| walk_at "fr") => `(tactic| first
  | with_reducible assumption
  | ((with_reducible refine' $(Lean.mkIdent `Y.fr_new) ?n0); (case n0 => with_reducible assumption))
  | ((with_reducible refine' $(Lean.mkIdent `Y.fr_of) ?n0 ?n1); (case n0 => with_reducible assumption); (case n1 => walk_at "sm"))
  | fail)
local macro_rules | `(tactic| walk_at "at") => `(tactic| first
  | with_reducible assumption
  | with_reducible exact upd_same
  | ((with_reducible refine' $(Lean.mkIdent `Y.at_new) ?n0 ?n1); (case n0 => with_reducible assumption); (case n1 => walk_at "at"))
  | ((with_reducible refine' $(Lean.mkIdent `Y.at_ne) ?n0 ?n1); (case n0 => walk_at "ne"); (case n1 => walk_at "at"))
  | ((with_reducible refine' $(Lean.mkIdent `Y.get_same) ?n0 ?n1); (case n0 => with_reducible assumption); (case n1 => walk_at "at"))
  | ((with_reducible refine' $(Lean.mkIdent `Y.get_kp) ?n0 ?n1 ?n2); (case n0 => with_reducible assumption); (case n1 => walk_at "at"); (case n2 => walk_at "ni"))
  | ((with_reducible refine' $(Lean.mkIdent `Y.at_tk) ?n0 ?n1 ?n2); (case n0 => with_reducible assumption); (case n1 => walk_at "tp"); (case n2 => walk_at "at"))
  | fail)
local macro_rules | `(tactic| walk_at "tk") => `(tactic| first
  | with_reducible assumption
  | with_reducible exact $(Lean.mkIdent `Y.Tk.refl) _
  | fail)
local macro_rules | `(tactic| walk_at "pr") => `(tactic| first
  | with_reducible assumption
  | ((with_reducible refine' $(Lean.mkIdent `Y.pr_new) ?n0 ?n1); (case n0 => with_reducible assumption); (case n1 => walk_at "pr"))
  | ((with_reducible refine' $(Lean.mkIdent `Y.pr_same) ?n0 ?n1); (case n0 => with_reducible assumption); (case n1 => walk_at "pr"))
  | fail)
local macro_rules | `(tactic| walk_at "prs") => `(tactic| first
  | with_reducible assumption
  | ((with_reducible refine' $(Lean.mkIdent `Y.prs_same) ?n0 ?n1); (case n0 => with_reducible assumption); (case n1 => walk_at "prs"))
  | fail)
local macro_rules | `(tactic| walk_at "ad") => `(tactic| first
  | with_reducible assumption
  | with_reducible exact $(Lean.mkIdent `Y.At.int) _
  | with_reducible exact $(Lean.mkIdent `Y.At.str) _
  | with_reducible exact $(Lean.mkIdent `Y.At.bl) _
  | with_reducible exact $(Lean.mkIdent `Y.At.non)
  | ((with_reducible refine' $(Lean.mkIdent `Y.Td.at0) ?n0); (case n0 => walk_at "td"))
  | ((with_reducible refine' $(Lean.mkIdent `Y.at_tup0) ?n0 ?n1); (case n0 => walk_at "at"); (case n1 => walk_at "ads"))
  | ((with_reducible refine' $(Lean.mkIdent `Y.at_lst0) ?n0 ?n1); (case n0 => walk_at "at"); (case n1 => walk_at "ads"))
  | ((with_reducible refine' $(Lean.mkIdent `Y.at_new') ?n0 ?n1); (case n0 => with_reducible assumption); (case n1 => walk_at "ad"))
  | ((with_reducible refine' $(Lean.mkIdent `Y.At.same) ?n0 ?n1); (case n0 => with_reducible assumption); (case n1 => walk_at "ad"))
  | fail)
local macro_rules | `(tactic| walk_at "ads") => `(tactic| first
  | with_reducible assumption
  | with_reducible exact $(Lean.mkIdent `Y.Ats.nil)
  | ((with_reducible refine' $(Lean.mkIdent `Y.Ats.cons) ?n0 ?n1); (case n0 => walk_at "ad"); (case n1 => walk_at "ads"))
  | fail)
local macro_rules | `(tactic| walk_at "td") => `(tactic| first
  | with_reducible assumption
  | with_reducible exact $(Lean.mkIdent `Y.Td.int) _
  | with_reducible exact $(Lean.mkIdent `Y.Td.str) _
  | with_reducible exact $(Lean.mkIdent `Y.Td.bl) _
  | with_reducible exact $(Lean.mkIdent `Y.Td.non)
  | ((with_reducible refine' $(Lean.mkIdent `Y.td_tup) ?n0 ?n1); (case n0 => walk_at "at"); (case n1 => walk_at "tds"))
  | ((with_reducible refine' $(Lean.mkIdent `Y.td_new) ?n0 ?n1); (case n0 => with_reducible assumption); (case n1 => walk_at "td"))
  | ((with_reducible refine' $(Lean.mkIdent `Y.td_same) ?n0 ?n1); (case n0 => with_reducible assumption); (case n1 => walk_at "td"))
  | fail)
local macro_rules | `(tactic| walk_at "tds") => `(tactic| first
  | with_reducible assumption
  | with_reducible exact $(Lean.mkIdent `Y.Tds.nil)
  | fail)
local macro_rules | `(tactic| walk_at "ins") => `(tactic| first
  | with_reducible assumption
  | ((with_reducible refine' $(Lean.mkIdent `Y.ins_put) ?n0 ?n1); (case n0 => walk_at "at"); (case n1 => walk_at "ins"))
  | fail)
local macro_rules | `(tactic| walk_at "bk") => `(tactic| first
  | with_reducible assumption
  | ((with_reducible refine' $(Lean.mkIdent `Y.bk_same) ?n0 ?n1); (case n0 => with_reducible assumption); (case n1 => walk_at "bk"))
  | ((with_reducible refine' $(Lean.mkIdent `Y.bk_kp) ?n0 ?n2 ?n3 ?n1); (case n0 => with_reducible assumption); (case n2 => walk_at "tp"); (case n1 => walk_at "bk"); (case n3 => with_reducible assumption))
  | fail)
local macro_rules | `(tactic| walk_at "wd") => `(tactic| first
  | fail)
local macro_rules | `(tactic| walk_at "rt") => `(tactic| first
  | with_reducible assumption
  | fail)
local macro_rules | `(tactic| walk_at "ru") => `(tactic| first
  | with_reducible assumption
  | ((with_reducible refine' $(Lean.mkIdent `Y.ru_app) ?n0 ?n1); (case n0 => walk_at "ru"); (case n1 => walk_at "ru"))
  | ((with_reducible refine' $(Lean.mkIdent `Y.ru_new) ?n0 ?n1); (case n0 => with_reducible assumption); (case n1 => walk_at "ru"))
  | ((with_reducible refine' $(Lean.mkIdent `Y.ru_put) ?n0 ?n1); (case n0 => walk_at "at"); (case n1 => walk_at "ru"))
  | ((with_reducible refine' $(Lean.mkIdent `Y.ru_same) ?n0 ?n1); (case n0 => with_reducible assumption); (case n1 => walk_at "ru"))
  | ((with_reducible refine' $(Lean.mkIdent `Y.ru_kp) ?n0 ?n2 ?n1); (case n0 => with_reducible assumption); (case n2 => walk_at "tp"); (case n1 => walk_at "ru"))
  | fail)
local macro_rules | `(tactic| walk_at "gd") => `(tactic| first
  | with_reducible assumption
  | ((with_reducible refine' $(Lean.mkIdent `Y.gd_app) ?n0 ?n1); (case n0 => walk_at "gd"); (case n1 => walk_at "gd"))
  | fail)
local macro_rules | `(tactic| walk_at "up") => `(tactic| first
  | with_reducible assumption
  | ((with_reducible refine' $(Lean.mkIdent `Y.Can.up) ?n0); (case n0 => with_reducible assumption))
  | fail)
local macro_rules | `(tactic| walk_at "sq") => `(tactic| first
  | assumption
  | (refine' SqL.of ?n0; (case n0 => walk_at "at"))
  | (refine' SqT.of ?n0; (case n0 => walk_at "at"))
  | ((with_reducible refine' $(Lean.mkIdent `Y.sql_new) ?n0 ?n1); (case n0 => with_reducible assumption); (case n1 => walk_at "sq"))
  | ((with_reducible refine' $(Lean.mkIdent `Y.sq_or) ?n0); (case n0 => walk_at "at"))
  | ((with_reducible refine' $(Lean.mkIdent `Y.sq_orT) ?n0); (case n0 => walk_at "at"))
  | ((with_reducible refine' Or.inl ?n0); (case n0 => walk_at "sq"))
  | ((with_reducible refine' Or.inr ?n0); (case n0 => walk_at "sq"))
  | fail)
local macro_rules | `(tactic| walk_at "dp") => `(tactic| first
  | assumption
  | exact Dp.int _
  | exact Dp.str _
  | exact Dp.bl _
  | exact Dp.non
  | (refine' Dp.tup ?s0 ?a0; (case s0 => walk_at "sq"); (case a0 => walk_at "dpa"))
  | (refine' Dp.lst ?s0 ?a0; (case s0 => walk_at "sq"); (case a0 => walk_at "dpa"))
  | fail)
local macro_rules | `(tactic| walk_at "dpa") => `(tactic| first
  | exact DpAll.nil
  | (refine' DpAll.cons ?a0 ?b0; (case a0 => walk_at "dp"); (case b0 => walk_at "dpa"))
  | fail)
local macro_rules | `(tactic| walk_at "sh") => `(tactic| first
  | assumption
  | exact ⟨by simp [PyData.canLay0, PyData.canLayAll0], by simp [PyData.depth, PyData.depthAll]⟩
  | fail)
local macro_rules | `(tactic| walk_at "sd") => `(tactic| ((try dsimp only); first
  | omega
  | assumption
  | exact rfl
  | decide
  | exact Or.inl ⟨by omega, by omega⟩
  | exact Or.inr ⟨by omega, by omega⟩
  | exact ⟨by first | assumption | omega | decide, by first | assumption | omega | decide⟩
  | exact ⟨by decide, by decide, by decide⟩
  | exact ⟨by omega, $(Lean.mkIdent `Y.log9) (by omega) (by omega)⟩
  | (simp only [List.length_map, List.length_append, List.length_cons, List.length_nil, List.length_singleton, List.length_reverse, List.length_take, List.length_drop, sizeLine_eq]; omega)
  | fail))
local macro_rules | `(tactic| walk_at "sd3") => `(tactic| first
  | assumption
  | exact ⟨by omega, by omega, by omega⟩)
local macro_rules | `(tactic| walk_at "sd4") => `(tactic| first
  | assumption
  | exact ⟨by omega, by omega, by omega, by omega⟩)
local macro_rules | `(tactic| walk_at "rf") => `(tactic| exact rfl)
local macro_rules | `(tactic| walk_at "ai") => `(tactic| first
  | assumption
  | ((with_reducible refine' $(Lean.mkIdent `Y.at_k0) ?r); (case r => exact rfl))
  | ((with_reducible refine' $(Lean.mkIdent `Y.at_k1) ?r); (case r => exact rfl))
  | ((with_reducible refine' $(Lean.mkIdent `Y.at_k2) ?r); (case r => exact rfl))
  | ((with_reducible refine' $(Lean.mkIdent `Y.at_k3) ?r); (case r => exact rfl))
  | ((with_reducible refine' $(Lean.mkIdent `Y.ix_k0) ?r); (case r => walk_at "sd"))
  | ((with_reducible refine' $(Lean.mkIdent `Y.ix_k1) ?r); (case r => walk_at "sd"))
  | fail)
local macro_rules | `(tactic| walk_at "isi") => `(tactic| first
  | (with_reducible refine $(Lean.mkIdent `Y.g_isi_int_int) ?_)
  | (with_reducible refine $(Lean.mkIdent `Y.g_isi_int_bool) ?_)
  | (with_reducible refine $(Lean.mkIdent `Y.g_isi_int_str) ?_)
  | (with_reducible refine $(Lean.mkIdent `Y.g_isi_int_tuple) ?_)
  | (with_reducible refine $(Lean.mkIdent `Y.g_isi_bl_int) ?_)
  | (with_reducible refine $(Lean.mkIdent `Y.g_isi_bl_bool) ?_)
  | (with_reducible refine $(Lean.mkIdent `Y.g_isi_bl_str) ?_)
  | (with_reducible refine $(Lean.mkIdent `Y.g_isi_bl_tuple) ?_)
  | (with_reducible refine $(Lean.mkIdent `Y.g_isi_str_int) ?_)
  | (with_reducible refine $(Lean.mkIdent `Y.g_isi_str_bool) ?_)
  | (with_reducible refine $(Lean.mkIdent `Y.g_isi_str_str) ?_)
  | (with_reducible refine $(Lean.mkIdent `Y.g_isi_str_tuple) ?_)
  | (with_reducible refine $(Lean.mkIdent `Y.g_isi_non_int) ?_)
  | (with_reducible refine $(Lean.mkIdent `Y.g_isi_non_bool) ?_)
  | (with_reducible refine $(Lean.mkIdent `Y.g_isi_non_str) ?_)
  | (with_reducible refine $(Lean.mkIdent `Y.g_isi_non_tuple) ?_)
  | ((with_reducible refine' $(Lean.mkIdent `Y.g_isi_lst_int) ?h ?_); (case h => walk_at "at"))
  | ((with_reducible refine' $(Lean.mkIdent `Y.g_isi_lst_bool) ?h ?_); (case h => walk_at "at"))
  | ((with_reducible refine' $(Lean.mkIdent `Y.g_isi_lst_str) ?h ?_); (case h => walk_at "at"))
  | ((with_reducible refine' $(Lean.mkIdent `Y.g_isi_lst_tuple) ?h ?_); (case h => walk_at "at"))
  | ((with_reducible refine' $(Lean.mkIdent `Y.g_isi_tup_int) ?h ?_); (case h => walk_at "at"))
  | ((with_reducible refine' $(Lean.mkIdent `Y.g_isi_tup_bool) ?h ?_); (case h => walk_at "at"))
  | ((with_reducible refine' $(Lean.mkIdent `Y.g_isi_tup_str) ?h ?_); (case h => walk_at "at"))
  | ((with_reducible refine' $(Lean.mkIdent `Y.g_isi_tup_tuple) ?h ?_); (case h => walk_at "at"))
  | fail)
local macro_rules | `(tactic| walk_at "xa") => `(tactic| first
  | with_reducible assumption
  | ((with_reducible refine' $(Lean.mkIdent `Y.exAt_new) ?n0 ?n1); (case n0 => with_reducible assumption); (case n1 => walk_at "xa"))
  | fail)
local macro_rules | `(tactic| walk_at "dc") => `(tactic| first
  | with_reducible assumption
  | fail)
local macro_rules | `(tactic| walk_at "s1") => `(tactic| first
  | ((with_reducible refine' $(Lean.mkIdent `Y.g_var) ?h ?_); (case h => exact rfl))
  | (with_reducible refine $(Lean.mkIdent `Y.g_c) ?_)
  | (with_reducible refine $(Lean.mkIdent `Y.g_op) ?_)
  | (with_reducible refine $(Lean.mkIdent `Y.g_cons) ?_)
  | (with_reducible refine $(Lean.mkIdent `Y.g_nil) ?_)
  | (with_reducible refine $(Lean.mkIdent `Y.g_test) ?_)
  | (with_reducible refine $(Lean.mkIdent `Y.g_cb) ?_)
  | (with_reducible refine $(Lean.mkIdent `Y.g_seqA) ?_)
  | (with_reducible refine $(Lean.mkIdent `Y.g_seqR) ?_)
  | (with_reducible refine $(Lean.mkIdent `Y.g_seqD) ?_)
  | (with_reducible refine $(Lean.mkIdent `Y.g_seqF) ?_)
  | (with_reducible refine $(Lean.mkIdent `Y.g_seqW) ?_)
  | (with_reducible refine $(Lean.mkIdent `Y.g_asg) ?_)
  | (with_reducible refine $(Lean.mkIdent `Y.g_name) ?_)
  | (with_reducible refine $(Lean.mkIdent `Y.g_ifS) ?_)
  | (with_reducible refine $(Lean.mkIdent `Y.g_meth) ?_)
  | (with_reducible refine $(Lean.mkIdent `Y.ite_nf) ?_)
  | (with_reducible refine $(Lean.mkIdent `Y.ite_nt) ?_)
  | (with_reducible refine iteF ?_)
  | (with_reducible refine iteT ?_)
  | ((with_reducible refine $(Lean.mkIdent `Y.g_wipe) ?h ?_); (case h => exact rfl))
  | ((with_reducible refine' $(Lean.mkIdent `Y.g_take) ?T ?c0 ?c9 fun v H' h0 h1 T' k' => ?_); (case T => walk_at "tp"); (case c0 => walk_at "sd"); (case c9 => walk_at "sd"))
  | ((with_reducible refine $(Lean.mkIdent `Y.g_sz) ?z fun p hp => ?_); (case z => walk_at "sd"))
  | (with_reducible refine $(Lean.mkIdent `Y.g_pow6) ?_)
  | (with_reducible refine $(Lean.mkIdent `Y.g_pow12) ?_)
  | (with_reducible refine $(Lean.mkIdent `Y.g_pow18) ?_)
  | ((with_reducible refine $(Lean.mkIdent `Y.g_rI) ?c ?_); (case c => walk_at "sd"))
  | ((with_reducible refine $(Lean.mkIdent `Y.g_eq) ?c ?_); (case c => walk_at "rf"))
  | ((with_reducible refine $(Lean.mkIdent `Y.g_ne) ?c ?_); (case c => walk_at "rf"))
  | ((with_reducible refine' $(Lean.mkIdent `Y.g_ixL) ?h ?a ?_); (case h => walk_at "sq"); (case a => walk_at "ai"))
  | ((with_reducible refine' $(Lean.mkIdent `Y.g_pk2) ?h ?gxs ?a ?b fun v hv => ?_); (case h => walk_at "at"); (case gxs => with_reducible rfl); (case a => first | with_reducible assumption | omega); (case b => first | with_reducible assumption | omega))
  | ((with_reducible refine' $(Lean.mkIdent `Y.g_pk4) ?h ?gxs ?a ?b fun v hv => ?_); (case h => walk_at "at"); (case gxs => with_reducible rfl); (case a => first | with_reducible assumption | omega); (case b => first | with_reducible assumption | omega))
  | ((with_reducible refine' $(Lean.mkIdent `Y.g_pk5) ?h ?gxs ?a ?b fun v hv => ?_); (case h => walk_at "at"); (case gxs => with_reducible rfl); (case a => first | with_reducible assumption | omega); (case b => first | with_reducible assumption | omega))
  | ((with_reducible refine' $(Lean.mkIdent `Y.g_pickL) ?h ?a ?b ?e fun v hv => ?_); (case h => walk_at "at"); (case a => first | with_reducible assumption | omega); (case b => first | with_reducible assumption | omega); (case e => exact rfl))
  | ((with_reducible refine' $(Lean.mkIdent `Y.g_ixT) ?h ?a ?_); (case h => walk_at "sq"); (case a => walk_at "ai"))
  | ((with_reducible refine' $(Lean.mkIdent `Y.g_setL) ?h ?a ?_); (case h => walk_at "at"); (case a => walk_at "ai"))
  | ((with_reducible refine' $(Lean.mkIdent `Y.g_len) ?h ?_); (case h => walk_at "sq"))
  | (with_reducible refine $(Lean.mkIdent `Y.g_call) ?_)
  | (with_reducible refine $(Lean.mkIdent `Y.g_tB) ?_)
  | (with_reducible refine $(Lean.mkIdent `Y.g_un) ?_)
  | (with_reducible refine $(Lean.mkIdent `Y.g_and) ?_)
  | (with_reducible refine $(Lean.mkIdent `Y.g_or) ?_)
  | (with_reducible refine $(Lean.mkIdent `Y.g_not) ?_)
  | (with_reducible refine $(Lean.mkIdent `Y.g_tTup) ?_)
  | (with_reducible refine $(Lean.mkIdent `Y.g_tLst) ?_)
  | (with_reducible refine $(Lean.mkIdent `Y.g_sl) ?_)
  | (with_reducible refine $(Lean.mkIdent `Y.g_pt) ?_)
  | (with_reducible refine $(Lean.mkIdent `Y.g_np) ?_)
  | (with_reducible refine $(Lean.mkIdent `Y.g_bm) ?_)
  | (with_reducible refine $(Lean.mkIdent `Y.g_bm0) ?_)
  | (with_reducible refine $(Lean.mkIdent `Y.g_andV) ?_)
  | (with_reducible refine $(Lean.mkIdent `Y.g_orV) ?_)
  | (with_reducible refine $(Lean.mkIdent `Y.g_notV) ?_)
  | (with_reducible refine $(Lean.mkIdent `Y.g_chain) ?_)
  | (with_reducible refine $(Lean.mkIdent `Y.g_ret) ?_)
  | (with_reducible refine $(Lean.mkIdent `Y.g_drop) ?_)
  | (with_reducible refine $(Lean.mkIdent `Y.g_next) ?_)
  | (with_reducible refine $(Lean.mkIdent `Y.g_sub) ?_)
  | (with_reducible refine $(Lean.mkIdent `Y.g_gcons) ?_)
  | (with_reducible refine $(Lean.mkIdent `Y.g_gnil) ?_)
  | (with_reducible refine $(Lean.mkIdent `Y.g_yes) ?_)
  | (with_reducible refine $(Lean.mkIdent `Y.g_lstRg) ?_)
  | (with_reducible refine $(Lean.mkIdent `Y.g_rg2) ?_)
  | (with_reducible refine $(Lean.mkIdent `Y.g_exII) ?_)
  | (with_reducible refine $(Lean.mkIdent `Y.g_exI) ?_)
  | (with_reducible refine $(Lean.mkIdent `Y.g_rng1) ?_)
  | (with_reducible refine $(Lean.mkIdent `Y.g_iList) ?_)
  | (with_reducible refine $(Lean.mkIdent `Y.g_iTup) ?_)
  | (with_reducible refine $(Lean.mkIdent `Y.g_for) ?_)
  | (with_reducible refine $(Lean.mkIdent `Y.g_lc) ?_)
  | (with_reducible refine $(Lean.mkIdent `Y.g_rI0) ?_)
  | (with_reducible refine $(Lean.mkIdent `Y.g_isN) ?_)
  | (with_reducible refine $(Lean.mkIdent `Y.g_notN) ?_)
  | (with_reducible refine $(Lean.mkIdent `Y.g_neg) ?_)
  | (with_reducible refine $(Lean.mkIdent `Y.g_max2) ?_)
  | (with_reducible refine $(Lean.mkIdent `Y.g_min2) ?_)
  | (with_reducible refine $(Lean.mkIdent `Y.g_bl) ?_)
  | ((with_reducible refine' $(Lean.mkIdent `Y.g_slTo) ?n ?h fun p hp => ?_); (case n => walk_at "sd"); (case h => walk_at "sq"))
  | ((with_reducible refine' $(Lean.mkIdent `Y.g_slFrom) ?n ?h fun p hp => ?_); (case n => walk_at "sd"); (case h => walk_at "sq"))
  | ((with_reducible refine' $(Lean.mkIdent `Y.g_slL) ?h fun p hp => ?_); (case h => walk_at "sq"))
  | ((with_reducible refine' $(Lean.mkIdent `Y.g_cat) ?h ?h2 ?z fun l hl => ?_); (case h => walk_at "at"); (case h2 => walk_at "at"); (case z => walk_at "sd"))
  | ((with_reducible refine' $(Lean.mkIdent `Y.g_is_whole) ?hh ?_); (case hh => walk_at "ad"))
  | ((with_reducible refine' $(Lean.mkIdent `Y.g_is_day) ?hh ?_); (case hh => walk_at "ad"))
  | ((with_reducible refine' $(Lean.mkIdent `Y.g_is_two_days) ?hh ?_); (case hh => walk_at "ad"))
  | ((with_reducible refine' $(Lean.mkIdent `Y.g_is_stretch) ?hh ?_); (case hh => walk_at "ad"))
  | ((with_reducible refine' $(Lean.mkIdent `Y.g_is_coins) ?hh ?_); (case hh => walk_at "ad"))
  | ((with_reducible refine' $(Lean.mkIdent `Y.g_is_nights) ?hh ?_); (case hh => walk_at "ad"))
  | (with_reducible refine $(Lean.mkIdent `Y.g_tMake) ?_)
  | ((with_reducible refine' $(Lean.mkIdent `Y.g_mkPrice) ?cf fun v H' hs hi => ?_); (case cf => with_reducible assumption))
  | ((with_reducible refine' $(Lean.mkIdent `Y.g_mkCome) ?cf fun v H' hs hi => ?_); (case cf => with_reducible assumption))
  | ((with_reducible refine' $(Lean.mkIdent `Y.g_mkGo) ?cf fun v H' hs hi => ?_); (case cf => with_reducible assumption))
  | ((with_reducible refine' $(Lean.mkIdent `Y.g_mkLeast) ?cf fun v H' hs hi => ?_); (case cf => with_reducible assumption))
  | ((with_reducible refine' $(Lean.mkIdent `Y.g_mkMost) ?cf fun v H' hs hi => ?_); (case cf => with_reducible assumption))
  | ((with_reducible refine' $(Lean.mkIdent `Y.g_mkDeal) ?cf fun v H' hs hi => ?_); (case cf => with_reducible assumption))
  | ((with_reducible refine' $(Lean.mkIdent `Y.g_mkFee) ?cf fun v H' hs hi => ?_); (case cf => with_reducible assumption))
  | ((with_reducible refine' $(Lean.mkIdent `Y.g_rule) ?ha ?hi ?no ?_); (case ha => exact rfl); (case hi => walk_at "ins"); (case no => exact rfl))
  | (with_reducible refine $(Lean.mkIdent `Y.g_word) ?_)
  | ((with_reducible refine' $(Lean.mkIdent `Y.g_fits) ?cf ?hi ?hh ?_); (case cf => with_reducible assumption); (case hi => walk_at "ins"); (case hh => walk_at "ad"))
  | ((with_reducible refine' $(Lean.mkIdent `Y.g_told) ?cf ?hi fun p H' hs hf ha => ?_); (case cf => with_reducible assumption); (case hi => walk_at "ins"))
  | ((with_reducible refine' $(Lean.mkIdent `Y.g_first) ?cf ?ha ?hi ?_); (case cf => with_reducible assumption); (case ha => exact rfl); (case hi => walk_at "ins"))
  | ((with_reducible refine' $(Lean.mkIdent `Y.g_last) ?cf ?ha ?hi ?_); (case cf => with_reducible assumption); (case ha => exact rfl); (case hi => walk_at "ins"))
  | ((with_reducible refine' $(Lean.mkIdent `Y.g_worth) ?cf ?ha ?hi ?_); (case cf => with_reducible assumption); (case ha => exact rfl); (case hi => walk_at "ins"))
  | ((with_reducible refine' $(Lean.mkIdent `Y.g_Lcoins) ?T fun i H' T' k' h0 h1 => ?_); (case T => walk_at "tp"))
  | ((with_reducible refine' $(Lean.mkIdent `Y.g_Lworth) ?T fun v d H' T' k' ht hf => ?_); (case T => walk_at "tp"))
  | ((with_reducible refine' $(Lean.mkIdent `Y.g_Lrule) ?T ?c0 ?c1 fun v r H' T' k' hr hg => ?_); (case T => walk_at "tp"); (case c0 => walk_at "sd"); (case c1 => walk_at "sd"))
  | ((with_reducible refine' $(Lean.mkIdent `Y.g_bmeth) ?ha ?hi ?no ?_); (case ha => exact rfl); (case hi => walk_at "bk"); (case no => decide))
  | ((with_reducible refine' $(Lean.mkIdent `Y.g_robj) ?hi ?no ?_); (case hi => walk_at "bk"); (case no => decide))
  | ((with_reducible refine' $(Lean.mkIdent `Y.g_brulesR) ?cf ?cb ?hi ?hl fun p H' ys hs hf ha hy => ?_); (case cf => with_reducible assumption); (case cb => with_reducible assumption); (case hi => walk_at "bk"); (case hl => walk_at "sd"))
  | ((with_reducible refine' $(Lean.mkIdent `Y.g_brules) ?cf ?cb ?hi ?hl fun p H' ys hs hf ha hy => ?_); (case cf => with_reducible assumption); (case cb => with_reducible assumption); (case hi => walk_at "bk"); (case hl => walk_at "sd"))
  | ((with_reducible refine' $(Lean.mkIdent `Y.g_insert0) ?h ?z ?_); (case h => walk_at "at"); (case z => walk_at "sd"))
  | ((with_reducible refine' $(Lean.mkIdent `Y.g_listOf) ?h fun p hp => ?_); (case h => walk_at "sq"))
  | ((with_reducible refine' $(Lean.mkIdent `Y.g_append) ?h ?z ?_); (case h => walk_at "at"); (case z => walk_at "sd"))
  | ((with_reducible refine' $(Lean.mkIdent `Y.g_gtup) ?h ?l ?_); (case h => walk_at "sq"); (case l => walk_at "rf"))
  | ((with_reducible refine' $(Lean.mkIdent `Y.g_tyL) ?h ?_); (case h => walk_at "sq"))
  | ((with_reducible refine $(Lean.mkIdent `Y.g_rng1b) ?a ?b ?_); (case a => walk_at "sd"); (case b => walk_at "sd"))
  | ((with_reducible refine' $(Lean.mkIdent `Y.g_iListb) ?h ?_); (case h => walk_at "sq"))
  | ((with_reducible refine' $(Lean.mkIdent `Y.g_iTupb) ?h ?_); (case h => walk_at "sq"))
  | (with_reducible refine $(Lean.mkIdent `Y.g_begin) fun t H' hs hf T => ?_)
  | walk_at "isi"
  | ((with_reducible refine' $(Lean.mkIdent `Y.g_isK) ?ce ?h ?mx ?my ?_); (case ce => with_reducible assumption); (case h => walk_at "xa"); (case mx => decide); (case my => decide))
  | ((with_reducible refine' $(Lean.mkIdent `Y.g_isKV) ?ce ?h ?mx ?_); (case ce => with_reducible assumption); (case h => walk_at "xa"); (case mx => decide))
  | (with_reducible refine $(Lean.mkIdent `Y.g_xat0) ?_)
  | ((with_reducible refine' $(Lean.mkIdent `Y.g_xat) ?h ?ci ?_); (case h => walk_at "xa"); (case ci => with_reducible assumption))
  | ((with_reducible refine' $(Lean.mkIdent `Y.ite_subF) ?h ?_); (case h => decide))
  | ((with_reducible refine' $(Lean.mkIdent `Y.ite_subT) ?h ?_); (case h => decide))
  | ((with_reducible refine' $(Lean.mkIdent `Y.ite_nsubF) ?h ?_); (case h => decide))
  | (with_reducible refine $(Lean.mkIdent `Y.g_seqTK) ?_)
  | (with_reducible refine $(Lean.mkIdent `Y.g_seqTO) ?_)
  | (with_reducible refine $(Lean.mkIdent `Y.g_tryK) ?_)
  | (with_reducible refine $(Lean.mkIdent `Y.g_tryO) ?_)
  | (with_reducible refine $(Lean.mkIdent `Y.g_tMakeX) ?_)
  | (with_reducible refine $(Lean.mkIdent `Y.g_dg) ?_)
  | (with_reducible refine $(Lean.mkIdent `Y.g_dnin) ?_)
  | (with_reducible refine $(Lean.mkIdent `Y.g_sdput) ?_)
  | (with_reducible refine $(Lean.mkIdent `Y.g_callX) ?_)
  | fail)
local macro_rules | `(tactic| walk_at "ss") => `(tactic| repeat walk_at "s1")
local macro_rules | `(tactic| walk_at "st") => `(tactic| repeat (first | walk_at "s1" | (with_reducible refine $(Lean.mkIdent `Y.g_seq) ?_)))
def t_Ltake (K : PySem.W.Frag) : TS :=
  (tSeq (tIfS (tTest (tOp rGt (tOp (rIxL K) (tVar 0) (tC (.int 0))) (tC (.int 0))))
  (tSeq (tAsg (tOp rMod (tOp (rIxL K) (tVar 0) (tC (.int 0))) (tVar 1)) (gName 2))
  (tSeq (tAsg (tOp rDivW (tOp (rIxL K) (tVar 0) (tC (.int 0))) (tVar 1)) (gSub (tVar 0) (tC (.int 0)) rSetL))
  (tRet (tVar 2))))
  tNext)
  (tSeq (tAsg (tOp rMod (tOp rAdd (tOp rMul (tOp (rIxL K) (tVar 0) (tC (.int 1))) (tC (.int 48271))) (tC (.int 11))) (tC (.int 2147483647))) (gSub (tVar 0) (tC (.int 1)) rSetL))
  (tSeq (tAsg (tOp rMod (tOp rAdd (tOp rAdd (tOp rMul (tOp (rIxL K) (tVar 0) (tC (.int 1))) (tOp (rIxL K) (tVar 0) (tC (.int 1)))) (tOp rMul (tC (.int 69621)) (tOp (rIxL K) (tVar 0) (tC (.int 1))))) (tC (.int 7))) (tC (.int 2147483629))) (gName 3))
  (tRet (tOp rMod (tOp rDivW (tVar 3) (tC (.int 64))) (tVar 1))))))
theorem pure_Ltake {K : PySem.W.Frag} {x y : V} {H : Hp} {Q : VK} {E : XK} (h : sp_Ltake K [x, y] H Q E) : t_Ltake K { nx := fun _ H' => Q .non H', rt := Q } [some x, some y, none, none] H := by
  obtain ⟨x, y, e, t, b, s, m, rfl, rfl, ⟨rfl, rfl, a, c, ht, ha, hc, hc2⟩, hm0, hm9, q⟩ := h
  cases e
  unfold t_Ltake
  with_reducible refine g_seq ?_
  walk_at "ss"
  refine ite_d (fun z => ?_) fun z => ?_
  · with_reducible refine g_seqA ?_
    walk_at "ss"
    exact q _ _ (Int.emod_nonneg _ (by omega)) (Int.emod_lt_of_pos _ hm0) ⟨rfl, rfl, _, _, upd_same, Int.ediv_nonneg ha (by omega), hc, hc2⟩ (kp_upd (by simp))
  · walk_at "ss"
    have e0 : 0 ≤ (c * 48271 + 11) % 2147483647 := Int.emod_nonneg _ (by decide)
    have e1 : (c * 48271 + 11) % 2147483647 < 2147483647 := Int.emod_lt_of_pos _ (by decide)
    exact q _ _ (Int.emod_nonneg _ (by omega)) (Int.emod_lt_of_pos _ hm0) ⟨rfl, rfl, _, _, upd_same, ha, e0, by omega⟩ (kp_upd (by simp))
def t_Lbegin (K : PySem.W.Frag) : TS :=
  (tSeq (tIfS (tTest (tOp rGe (tVar 0) (tOp rPow (tC (.int 10)) (tC (.int 18)))))
  (tRet (tLst (tCons (tOp rSub (tVar 0) (tOp rPow (tC (.int 10)) (tC (.int 18)))) (tCons (tC (.int 0)) tNil))))
  tNext)
  (tRet (tLst (tCons (tC (.int 0)) (tCons (tOp rAdd (tOp rMod (tVar 0) (tC (.int 2147483629))) (tC (.int 11))) tNil)))))
theorem pure_Lbegin {K : PySem.W.Frag} {x : V} {H : Hp} {Q : VK} {E : XK} (h : sp_Lbegin K [x] H Q E) : t_Lbegin K { nx := fun _ H' => Q .non H', rt := Q } [some x] H := by
  obtain ⟨x, e, c, rfl, q⟩ := h
  cases e
  unfold t_Lbegin
  walk_at "ss"
  refine ite_d (fun z => ?_) fun z => ?_
  · walk_at "ss"
    rename_i t ht
    exact q t _ (same_new ht) ht ⟨rfl, rfl, _, _, upd_same, by omega, by decide, by decide⟩
  · walk_at "ss"
    rename_i t ht
    have e0 : 0 ≤ c % 2147483629 := Int.emod_nonneg _ (by decide)
    have e1 : c % 2147483629 < 2147483629 := Int.emod_lt_of_pos _ (by decide)
    exact q t _ (same_new ht) ht ⟨rfl, rfl, _, _, upd_same, by decide, by omega, by omega⟩
def t_Lcell_at (K : PySem.W.Frag) : TS :=
  (tSeq (tIfS (tTest (tOp rLt (tVar 1) (tCB (rLen K) (tCons (tVar 0) tNil))))
  (tRet (tOp (rIxL K) (tVar 0) (tVar 1)))
  tNext)
  (tRet (tC (.int 0))))
/-! Y2: days, stays, nights. -/
open PySem PySem.Spec PyProof.Rows L2
def sp_nights_of (K : PySem.W.Frag) : Sp := Sp1 fun x H Q E => ∃ (a : Addr) (c g : Int), x = .ref a ∧ SqT K H a [.int c, .int g] ∧ c - 1000 ≤ g ∧ g ≤ c + 1000 ∧ -10000000 ≤ c ∧ c ≤ 10000000 ∧
  ∀ (p : Addr) (H' : Hp), Same H H' → Fr H p → H' p = some (.lst ((days c g).map V.int)) → Q (.ref p) H'
def t_nights_of (K : PySem.W.Frag) : TS :=
  (tRet (tLstRg (tRg2 (tOp (rIxT K) (tVar 0) (tC (.int 0))) (tOp (rIxT K) (tVar 0) (tC (.int 1))))))
theorem pure_nights_of {K : PySem.W.Frag} {x : V} {H : Hp} {Q : VK} {E : XK} (h : sp_nights_of K [x] H Q E) : t_nights_of K { nx := fun _ H' => Q .non H', rt := Q } [some x] H := by
  obtain ⟨x, e, a, c, g, rfl, hS, h1, h2, h3, h4, q⟩ := h
  cases e
  unfold t_nights_of
  walk_at "ss"
  refine ⟨⟨by omega, by omega, by omega, by omega, by omega⟩, fun p hp => q p _ (same_new hp) hp (by rw [upd_same, rgV_days])⟩
/-! YX: list.count of flat items; range of three arguments. -/
open PySem PySem.Spec PyProof.Rows L2
/-- l.count(y), flat items -/
def rCntV (K : PySem.W.Frag) : V → List V → Hp → VK → Prop := fun x vs H Q => ∃ (p : Addr) (xs : List V) (y : V), x = .ref p ∧ vs = [y] ∧ flatV y = true ∧ xs.all flatV = true ∧ SqL K H p xs ∧ Q (.int (xs.countP fun z => eqV z y : Nat)) H
theorem cnt_eqU {x : V} : ∀ {xs : List V} {us : List Value}, Vals xs us → xs.all flatV = true → us.countP (eqU x) = xs.countP fun y => eqV y x
  | _, _, .nil, _ => rfl
  | y :: xs, u :: us, .cons r t, f => by
    rw [List.all_cons, Bool.and_eq_true] at f
    rw [List.countP_cons, List.countP_cons, cnt_eqU t f.2, eqU_of r f.1]
theorem mt_cntV {X : Cx} : MtR X "list.count" (rCntV X.K) := by
  intro pins s σ H x xs v us Q I rx rxs h
  obtain ⟨p, ys, y, rfl, rfl, fy, fs, hs, q⟩ := h
  cases rx
  obtain ⟨u, rfl, ru⟩ := rxs.one
  obtain ⟨its, rv, ⟨⟨cls, dd, data, sl⟩, n, ho, hc, hdn, hd⟩, hlen⟩ := I.list hs
  simp only at hc hd
  subst hc hd
  refine call_meets PySem.F.slot_list_count ⟨_, ho, rfl⟩ PySem.F.entry_list_count (PySem.F.args_list_count_2 _ _) (SeqAt.list_countAt p its.toArray n dd sl u (eqU y))
    ⟨ho, fun z hz => mem_eqAt ru fy rv fs z (by simpa using hz), ?_⟩
  refine ⟨.int (ys.countP fun z => eqV z y : Nat), H, I.tok _, ⟨s.toks, ?_⟩, q⟩
  show Value.int ((its.toArray.toList.countP (eqU y) : Nat) : Int) s.toks = Value.int ((ys.countP fun z => eqV z y : Nat) : Int) s.toks
  rw [show its.toArray.toList = its by simp, cnt_eqU rv fs]
theorem g_cntV {K : PySem.W.Frag} {H : Hp} {Q : VK} {p : Addr} {xs : List V} {y : V} (h : SqL K H p xs) (f : flatV y = true) (fs : xs.all flatV = true) (q : Q (.int (xs.countP fun z => eqV z y : Nat)) H) : rCntV K (.ref p) [y] H Q := ⟨p, xs, y, rfl, rfl, f, fs, h, q⟩
/-! Y8: marked: which nights of bundles are free. -/
open PySem PySem.Spec PyProof.Rows L2
/-! ### the plain law -/
def ltP (a b : Pr) : Bool := decide (a.1 < b.1) || (decide (a.1 = b.1) && decide (a.2 < b.2))
def key (ps : List Int) (p : Nat) : Pr := (ps.getD p 0, (ps.length : Int) - p)
def bund (ps : List Int) (m b : Nat) : List Pr := (List.range m).map fun i => key ps (b * m + i)
def rank (ps : List Int) (m p : Nat) : Nat := (bund ps m (p / m)).countP fun k => ltP k (key ps p)
def isMk (ps : List Int) (m f p : Nat) : Bool := decide (p / m < ps.length / m) && decide (rank ps m p < f)
def mk (ps : List Int) (m f : Nat) : List Bool := (List.range ps.length).map fun p => isMk ps m f p
def mkO (ps : List Int) : Option (Int × Int) → List Bool
  | none => List.replicate ps.length false
  | some d => mk ps d.1.toNat d.2.toNat
/-! ### the walk -/
def DealAt (H : Hp) (y : V) : Option (Int × Int) → Prop
  | none => y = .non
  | some d => PrAt H y d ∧ 0 < d.1 ∧ d.1 ≤ 1000 ∧ 0 ≤ d.2
def sp_marked (K : PySem.W.Frag) : Sp := Sp2 fun x y H Q E => ∃ (a : Addr) (ps : List Int) (d : Option (Int × Int)), x = .ref a ∧ SqL K H a (ps.map V.int) ∧ ps.length ≤ 1000 ∧ DealAt H y d ∧
  ∀ (l : Addr) (H' : Hp), Same H H' → Fr H l → H' l = some (.lst ((mkO ps d).map V.bl)) → Q (.ref l) H'
def t_marked (K : PySem.W.Frag) : TS :=
  (tSeq (tAsg (tLc (iList K (tVar 0)) (gName 2) tYes (tC (.bl false)) [2]) (gName 3))
  (tSeq (tIfS (tTest (tOp rIsN (tVar 1) (tC .non)))
  (tRet (tVar 3))
  tNext)
  (tSeq (tAsg (tVar 1) (gTup K 2 (gCons (gName 4) (gCons (gName 5) gNil))))
  (tSeq (tFor (iRng3 (tCons (tC (.int 0)) (tCons (tOp rAdd (tOp rSub (tCB (rLen K) (tCons (tVar 0) tNil)) (tVar 4)) (tC (.int 1))) (tCons (tVar 4) tNil)))) (gName 6)
  (tSeq (tAsg (tCB (rSortedPO K) (tCons (tLc (iRng2 (tCons (tVar 6) (tCons (tOp rAdd (tVar 6) (tVar 4)) tNil))) (gName 9) tYes (tTup (tCons (tOp (rIxL K) (tVar 0) (tVar 9)) (tCons (tOp rSub (tCB (rLen K) (tCons (tVar 0) tNil)) (tVar 9)) tNil))) [9]) tNil)) (gName 7))
  (tFor (iList K (tSl (rSlL K) (tVar 7) tNoPart (tPart (tVar 5)))) (gTup K 2 (gCons (gName 2) (gCons (gName 8) gNil)))
  (tAsg (tC (.bl true)) (gSub (tVar 3) (tOp rSub (tCB (rLen K) (tCons (tVar 0) tNil)) (tVar 8)) rSetL)))))
  (tRet (tVar 3))))))
/-! YA: data of any shape in the heap. -/
open PySem PySem.Spec PyProof.Rows L2
mutual
/-- v is laid as d; its lists and tuples stand at none of L -/
inductive At (H : Hp) (L : List Addr) : V → PyData → Prop
  | non : At H L .non .none
  | bl (b : Bool) : At H L (.bl b) (.bool b)
  | int (i : Int) : At H L (.int i) (.int i)
  | str (z : Str) : At H L (.str z) (.str z)
  | lst {a : Addr} {xs : List V} {ds : List PyData} (n : a ∉ L) (h : H a = some (.lst xs)) (r : Ats H L xs ds) : At H L (.ref a) (.list ds)
  | tup {a : Addr} {xs : List V} {ds : List PyData} (n : a ∉ L) (h : H a = some (.tup xs)) (r : Ats H L xs ds) : At H L (.ref a) (.tuple ds)
inductive Ats (H : Hp) (L : List Addr) : List V → List PyData → Prop
  | nil : Ats H L [] []
  | cons {v : V} {vs : List V} {d : PyData} {ds : List PyData} (h : At H L v d) (r : Ats H L vs ds) : Ats H L (v :: vs) (d :: ds)
end
theorem Ats.len {H : Hp} {L : List Addr} : ∀ {vs : List V} {ds : List PyData}, Ats H L vs ds → vs.length = ds.length
  | _, _, .nil => rfl
  | _, _, .cons _ r => by rw [List.length_cons, List.length_cons, Ats.len r]
mutual
theorem At.mono {H H' : Hp} {L L' : List Addr} (k : ∀ a o, H a = some o → a ∉ L → H' a = some o) (l : ∀ a ∈ L', a ∈ L) : ∀ {v : V} {d : PyData}, At H L v d → At H' L' v d
  | _, _, .non => .non
  | _, _, .bl b => .bl b
  | _, _, .int i => .int i
  | _, _, .str z => .str z
  | _, _, .lst n h r => .lst (fun z => n (l _ z)) (k _ _ h n) (Ats.mono k l r)
  | _, _, .tup n h r => .tup (fun z => n (l _ z)) (k _ _ h n) (Ats.mono k l r)
theorem Ats.mono {H H' : Hp} {L L' : List Addr} (k : ∀ a o, H a = some o → a ∉ L → H' a = some o) (l : ∀ a ∈ L', a ∈ L) : ∀ {vs : List V} {ds : List PyData}, Ats H L vs ds → Ats H' L' vs ds
  | _, _, .nil => .nil
  | _, _, .cons h r => .cons (At.mono k l h) (Ats.mono k l r)
end
theorem At.kp {H H' : Hp} {L : List Addr} {v : V} {d : PyData} (k : Kp L H H') (h : At H L v d) : At H' L v d := h.mono k fun _ z => z
theorem At.same {H H' : Hp} {L : List Addr} {v : V} {d : PyData} (k : Same H H') (h : At H L v d) : At H' L v d := h.mono (fun a o e _ => k a o e) fun _ z => z
theorem At.nil {H : Hp} {L : List Addr} {v : V} {d : PyData} (h : At H L v d) : At H [] v d := h.mono (fun _ _ e _ => e) fun _ z => by simp at z
theorem at_new' {H : Hp} {L : List Addr} {p : Addr} {o : HO} {v : V} {d : PyData} (hp : Fr H p) (h : At H L v d) : At (upd H p o) L v d := h.same (same_new hp)
mutual
theorem At.dp {K : PySem.W.Frag} {H : Hp} {L : List Addr} : ∀ {v : V} {d : PyData}, At H L v d → Dp K H v d
  | _, _, .non => .non
  | _, _, .bl b => .bl b
  | _, _, .int i => .int i
  | _, _, .str z => .str z
  | _, _, .lst _ h r => .lst (SqL.of h) (Ats.dp r)
  | _, _, .tup _ h r => .tup (SqT.of h) (Ats.dp r)
theorem Ats.dp {K : PySem.W.Frag} {H : Hp} {L : List Addr} : ∀ {vs : List V} {ds : List PyData}, Ats H L vs ds → DpAll K H vs ds
  | _, _, .nil => .nil
  | _, _, .cons h r => .cons (At.dp h) (Ats.dp r)
end
theorem at_tup0 {H : Hp} {a : Addr} {xs : List V} {ds : List PyData} (h : H a = some (.tup xs)) (r : Ats H [] xs ds) : At H [] (.ref a) (.tuple ds) := .tup (by simp) h r
theorem at_lst0 {H : Hp} {a : Addr} {xs : List V} {ds : List PyData} (h : H a = some (.lst xs)) (r : Ats H [] xs ds) : At H [] (.ref a) (.list ds) := .lst (by simp) h r
mutual
/-- data of tuples alone -/
inductive Td (H : Hp) : V → PyData → Prop
  | non : Td H .non .none
  | bl (b : Bool) : Td H (.bl b) (.bool b)
  | int (i : Int) : Td H (.int i) (.int i)
  | str (z : Str) : Td H (.str z) (.str z)
  | tup {a : Addr} {xs : List V} {ds : List PyData} (h : H a = some (.tup xs)) (r : Tds H xs ds) : Td H (.ref a) (.tuple ds)
inductive Tds (H : Hp) : List V → List PyData → Prop
  | nil : Tds H [] []
  | cons {v : V} {vs : List V} {d : PyData} {ds : List PyData} (h : Td H v d) (r : Tds H vs ds) : Tds H (v :: vs) (d :: ds)
end
mutual
theorem Td.tk {H H' : Hp} (k : Tk H H') : ∀ {v : V} {d : PyData}, Td H v d → Td H' v d
  | _, _, .non => .non
  | _, _, .bl b => .bl b
  | _, _, .int i => .int i
  | _, _, .str z => .str z
  | _, _, .tup h r => .tup (k _ _ h) (Tds.tk k r)
theorem Tds.tk {H H' : Hp} (k : Tk H H') : ∀ {vs : List V} {ds : List PyData}, Tds H vs ds → Tds H' vs ds
  | _, _, .nil => .nil
  | _, _, .cons h r => .cons (Td.tk k h) (Tds.tk k r)
end
mutual
theorem Td.at {H : Hp} {L : List Addr} (l : ∀ a xs, H a = some (.tup xs) → a ∉ L) : ∀ {v : V} {d : PyData}, Td H v d → At H L v d
  | _, _, .non => .non
  | _, _, .bl b => .bl b
  | _, _, .int i => .int i
  | _, _, .str z => .str z
  | _, _, .tup h r => .tup (l _ _ h) h (Tds.at l r)
theorem Tds.at {H : Hp} {L : List Addr} (l : ∀ a xs, H a = some (.tup xs) → a ∉ L) : ∀ {vs : List V} {ds : List PyData}, Tds H vs ds → Ats H L vs ds
  | _, _, .nil => .nil
  | _, _, .cons h r => .cons (Td.at l h) (Tds.at l r)
end
theorem Td.at0 {H : Hp} {v : V} {d : PyData} (h : Td H v d) : At H [] v d := h.at fun _ _ _ z => by simp at z
theorem td_new {H : Hp} {p : Addr} {o : HO} {v : V} {d : PyData} (hp : Fr H p) (h : Td H v d) : Td (upd H p o) v d := h.tk (tk_new hp)
theorem td_same {H H' : Hp} {v : V} {d : PyData} (k : Same H H') (h : Td H v d) : Td H' v d := h.tk (Same.tk k)
theorem td_tup {H : Hp} {a : Addr} {xs : List V} {ds : List PyData} (h : H a = some (.tup xs)) (r : Tds H xs ds) : Td H (.ref a) (.tuple ds) := .tup h r
theorem Td.dp {K : PySem.W.Frag} {H : Hp} {v : V} {d : PyData} (h : Td H v d) : Dp K H v d := h.at0.dp
/-! ### the length of what is shown -/
/-- may be shown: by so many signs, so deep -/
structure Sho (k m : Nat) (d : PyData) : Prop where
  sh : d.showable = true
  nd : d.hasDict = false
  dp : d.depth ≤ k
  sz : d.shown.length ≤ m
/-! YK: kinds of rules, their classes; what the rules' defs promise. -/
open PySem PySem.Spec PyProof.Rows L2
/-- the words of rules -/
inductive Wd | price | come | go | least | most | deal | fee
  deriving DecidableEq
def Wd.cls : Wd → Str
  | .price => "Price" | .come => "Come" | .go => "Go" | .least => "Least" | .most => "Most" | .deal => "Deal" | .fee => "Fee"
def Wd.word : Wd → Str
  | .price => "price" | .come => "come" | .go => "go" | .least => "least" | .most => "most" | .deal => "deal" | .fee => "fee"
abbrev aC (K : PySem.W.Frag) (w : Wd) : Addr := He.ga K w.cls
theorem Wd.mem (w : Wd) : w.cls ∈ ruleCls := by cases w <;> decide
def CFR (K : PySem.W.Frag) : Prop := exRules K = true
section
variable {K : PySem.W.Frag} (c : CFR K)
include c
theorem CFR.one (w : Wd) : ((He.Fa.cls w.cls).ok K && ((["first", "last", "worth"] : List Str).all (fun f => (He.Fa.noat w.cls f).ok K) && (tyB K (He.ga K w.cls) && isiB K w.cls "Rule" true))) = true :=
  List.all_eq_true.mp (He.ba c).1 _ w.mem
theorem CFR.cls (w : Wd) : Cls K (aC K w) := He.cls_ok (He.ba (CFR.one c w)).1
theorem CFR.no (w : Wd) {f : Str} (h : f ∈ (["first", "last", "worth"] : List Str)) : NoAttr K (aC K w) f := He.noat_ok (List.all_eq_true.mp (He.ba (He.ba (CFR.one c w)).2).1 f h)
theorem CFR.words (H : Hp) : SqT K H (He.ga K "WORDS") (wordsL.map V.str) := by
  have h := He.tupB_ok (He.ba (He.ba c).2).2 H
  rw [List.map_map] at h
  exact h
end
/-! ### data of rules -/
def isW : PyData → Bool
  | .int _ => true
  | _ => false
def isDay : PyData → Bool
  | .int i => decide (0 ≤ i) && decide (i ≤ 1000000)
  | _ => false
def is2 : PyData → Bool
  | .tuple [a, b] => isDay a && isDay b
  | _ => false
def isStr : PyData → Bool
  | .tuple [.int a, .int b] => isDay (.int a) && (isDay (.int b) && decide (a ≤ b))
  | _ => false
def isCoins : PyData → Bool
  | .int i => decide (0 ≤ i) && decide (i ≤ 1000000000000)
  | _ => false
def isNights : PyData → Bool
  | .int i => decide (1 ≤ i) && decide (i ≤ 14)
  | _ => false
def isNone : PyData → Bool
  | .none => true
  | _ => false
def isBool : PyData → Bool
  | .bool _ => true
  | _ => false
def isDeal : PyData → Bool
  | .none => true
  | .tuple [a, .int f] => isNights a && (match a with | .int m => decide (1 ≤ f) && decide (f < m) | _ => false)
  | _ => false
def fitsD : Wd → PyData → Bool
  | .price, d => isNone d || isCoins d
  | .come, d => isBool d
  | .go, d => isBool d
  | .least, d => isNights d
  | .most, d => isNights d
  | .deal, d => isDeal d
  | .fee, d => isCoins d
structure RuleD where
  w : Wd
  f : Int
  l : Int
  d : PyData
def RuleD.told (r : RuleD) : PyData := .tuple [.str r.w.word, .int r.f, .int r.l, r.d]
def RuleD.good (r : RuleD) : Prop := 0 ≤ r.f ∧ r.f ≤ r.l ∧ r.l ≤ 1000000 ∧ fitsD r.w r.d = true
/-- a rule's object -/
def RuleAt (K : PySem.W.Frag) (H : Hp) (v : V) (r : RuleD) : Prop := ∃ (a dx : Addr) (wv : V), v = .ref a ∧ H a = some (.ins (aC K r.w) dx [("first", .int r.f), ("last", .int r.l), ("worth", wv)]) ∧ Td H wv r.d
/-! ### promises -/
def sp_is_whole (K : PySem.W.Frag) : Sp := Sp1 fun x H Q E => ∃ d, At H [] x d ∧ Q (.bl (isW d)) H
theorem g_is_whole {K : PySem.W.Frag} {H : Hp} {Q : VK} {E : XK} {x : V} {d : PyData} (h : At H [] x d) (q : Q (.bl (isW d)) H) : sp_is_whole K ([x] ++ []) H Q E := ⟨x, rfl, d, h, q⟩
def sp_is_day (K : PySem.W.Frag) : Sp := Sp1 fun x H Q E => ∃ d, At H [] x d ∧ Q (.bl (isDay d)) H
theorem g_is_day {K : PySem.W.Frag} {H : Hp} {Q : VK} {E : XK} {x : V} {d : PyData} (h : At H [] x d) (q : Q (.bl (isDay d)) H) : sp_is_day K ([x] ++ []) H Q E := ⟨x, rfl, d, h, q⟩
def sp_is_two_days (K : PySem.W.Frag) : Sp := Sp1 fun x H Q E => ∃ d, At H [] x d ∧ Q (.bl (is2 d)) H
theorem g_is_two_days {K : PySem.W.Frag} {H : Hp} {Q : VK} {E : XK} {x : V} {d : PyData} (h : At H [] x d) (q : Q (.bl (is2 d)) H) : sp_is_two_days K ([x] ++ []) H Q E := ⟨x, rfl, d, h, q⟩
def sp_is_stretch (K : PySem.W.Frag) : Sp := Sp1 fun x H Q E => ∃ d, At H [] x d ∧ Q (.bl (isStr d)) H
theorem g_is_stretch {K : PySem.W.Frag} {H : Hp} {Q : VK} {E : XK} {x : V} {d : PyData} (h : At H [] x d) (q : Q (.bl (isStr d)) H) : sp_is_stretch K ([x] ++ []) H Q E := ⟨x, rfl, d, h, q⟩
def sp_is_coins (K : PySem.W.Frag) : Sp := Sp1 fun x H Q E => ∃ d, At H [] x d ∧ Q (.bl (isCoins d)) H
theorem g_is_coins {K : PySem.W.Frag} {H : Hp} {Q : VK} {E : XK} {x : V} {d : PyData} (h : At H [] x d) (q : Q (.bl (isCoins d)) H) : sp_is_coins K ([x] ++ []) H Q E := ⟨x, rfl, d, h, q⟩
def sp_is_nights (K : PySem.W.Frag) : Sp := Sp1 fun x H Q E => ∃ d, At H [] x d ∧ Q (.bl (isNights d)) H
theorem g_is_nights {K : PySem.W.Frag} {H : Hp} {Q : VK} {E : XK} {x : V} {d : PyData} (h : At H [] x d) (q : Q (.bl (isNights d)) H) : sp_is_nights K ([x] ++ []) H Q E := ⟨x, rfl, d, h, q⟩
theorem and_t {a b : Bool} {Q : VK} {H : Hp} (h : a = true) (q : Q (.bl (a && b)) H) : Q (.bl b) H := by rwa [h, Bool.true_and] at q
theorem and_f {a b : Bool} {Q : VK} {H : Hp} (h : a = false) (q : Q (.bl (a && b)) H) : Q (.bl false) H := by rwa [h, Bool.false_and] at q
/-! YJ: rules' objects: their fields, their making, their methods. -/
open PySem PySem.Spec PyProof.Rows L2
/-- an object of the class of w with these three fields -/
def InsAt (K : PySem.W.Frag) (H : Hp) (v : V) (w : Wd) (x y z : V) : Prop := ∃ a dx, v = .ref a ∧ H a = some (.ins (aC K w) dx [("first", x), ("last", y), ("worth", z)])
/-- all that is no list stays -/
def Nk (H H' : Hp) : Prop := ∀ a o, H a = some o → (∀ xs, o ≠ .lst xs) → H' a = some o
theorem Nk.trans {H H1 H2 : Hp} (a : Nk H H1) (b : Nk H1 H2) : Nk H H2 := fun c o h n => b c o (a c o h n) n
theorem Same.nk {H H' : Hp} (e : Same H H') : Nk H H' := fun a o h _ => e _ _ h
theorem Nk.tk {H H' : Hp} (k : Nk H H') : Tk H H' := fun a xs h => k a _ h fun ys z => by cases z
theorem nk_new {H : Hp} {p : Addr} {o : HO} (h : Fr H p) : Nk H (upd H p o) := Same.nk (same_new h)
theorem nk_put {H : Hp} {p : Addr} {o : HO} {zs : List V} (h : H p = some (.lst zs)) : Nk H (upd H p o) := fun a u e n => at_ne (fun z => by rw [z, h] at e; cases e; exact n _ rfl) e
theorem nk_kp {H H' : Hp} {t b s : Addr} (T : Tape H t b s) (k : Kp [t, b] H H') : Nk H H' := fun a o e n => k a _ e fun m => by
  obtain ⟨⟨_, h1⟩, _, h2⟩ := tape_lst T
  rcases List.mem_cons.mp m with z | m
  · rw [z, h1] at e; cases e; exact n _ rfl
  · rw [List.mem_singleton.mp m, h2] at e; cases e; exact n _ rfl
section
variable {K : PySem.W.Frag} {H H' : Hp} {v x y z : V} {w : Wd} {r : RuleD}
theorem InsAt.nk (k : Nk H H') (h : InsAt K H v w x y z) : InsAt K H' v w x y z := let ⟨a, dx, e, h⟩ := h; ⟨a, dx, e, k _ _ h fun xs q => by cases q⟩
theorem ins_put {p : Addr} {o : HO} {zs : List V} (hp : H p = some (.lst zs)) (h : InsAt K H v w x y z) : InsAt K (upd H p o) v w x y z := h.nk (nk_put hp)
end
theorem RuleAt.ins {K : PySem.W.Frag} {H : Hp} {v : V} {r : RuleD} (h : RuleAt K H v r) : ∃ wv, InsAt K H v r.w (.int r.f) (.int r.l) wv ∧ Td H wv r.d := let ⟨a, dx, wv, e, h, q⟩ := h; ⟨wv, ⟨a, dx, e, h⟩, q⟩
theorem RuleAt.of {K : PySem.W.Frag} {H : Hp} {v : V} {r : RuleD} {wv : V} (h : InsAt K H v r.w (.int r.f) (.int r.l) wv) (q : Td H wv r.d) : RuleAt K H v r := let ⟨a, dx, e, h⟩ := h; ⟨a, dx, wv, e, h, q⟩
/-! ### readings -/
/-- a method of whichever rule's class -/
def tRule (K : PySem.W.Frag) (m : Str) (sp : Wd → Sp) (ta : TE) (t : TA) : TE := fun σ H Q => ∃ w : Wd, tMeth (aC K w) m (sp w) [] E0 ta t σ H Q
theorem pe_rule {X : Cx} {e : Expr} {m : Str} {sp : Wd → Sp} {ta : TE} {t : TA} (h : ∀ w, PE X e (tMeth (aC X.K w) m (sp w) [] E0 ta t)) : PE X e (tRule X.K m sp ta t) := ⟨fun pins s σ H Q I q => let ⟨w, q⟩ := q; (h w).run pins s σ H Q I q⟩
theorem g_rule {K : PySem.W.Frag} {m : Str} {sp : Wd → Sp} {t : TA} {n : Nat} {σ : L2.St} {H : Hp} {Q : VK} {v x y z : V} {w : Wd} (h : σ[n]? = some (some v)) (i : InsAt K H v w x y z) (no : ([("first", x), ("last", y), ("worth", z)] : List (Str × V)).lookup m = none)
    (q : t σ H fun vs H2 => sp w (v :: (vs ++ [])) H2 Q E0) : tRule K m sp (tVar n) t σ H Q := by
  obtain ⟨a, dx, rfl, e⟩ := i
  exact ⟨w, _, h, a, dx, _, rfl, e, no, q⟩
theorem g_fld {K : PySem.W.Frag} {f : Str} {n : Nat} {σ : L2.St} {H : Hp} {Q : VK} {v x y z u : V} {w : Wd} (c : CFR K) (h : σ[n]? = some (some v)) (i : InsAt K H v w x y z) (m : f ∈ (["first", "last", "worth"] : List Str))
    (l : ([("first", x), ("last", y), ("worth", z)] : List (Str × V)).lookup f = some u) (q : Q u H) : tFld K (tVar n) f σ H Q := by
  obtain ⟨a, dx, rfl, e⟩ := i
  exact ⟨_, h, a, _, dx, _, u, rfl, e, CFR.cls c w, CFR.no c w m, l, q⟩
theorem g_first {K : PySem.W.Frag} {n : Nat} {σ : L2.St} {H : Hp} {Q : VK} {v x y z : V} {w : Wd} (c : CFR K) (h : σ[n]? = some (some v)) (i : InsAt K H v w x y z) (q : Q x H) : tFld K (tVar n) "first" σ H Q := g_fld c h i (by decide) rfl q
theorem g_last {K : PySem.W.Frag} {n : Nat} {σ : L2.St} {H : Hp} {Q : VK} {v x y z : V} {w : Wd} (c : CFR K) (h : σ[n]? = some (some v)) (i : InsAt K H v w x y z) (q : Q y H) : tFld K (tVar n) "last" σ H Q := g_fld c h i (by decide) rfl q
theorem g_worth {K : PySem.W.Frag} {n : Nat} {σ : L2.St} {H : Hp} {Q : VK} {v x y z : V} {w : Wd} (c : CFR K) (h : σ[n]? = some (some v)) (i : InsAt K H v w x y z) (q : Q z H) : tFld K (tVar n) "worth" σ H Q := g_fld c h i (by decide) rfl q
/-! ### isinstance -/
/-! ### promises -/
def sp_Rule_init (K : PySem.W.Frag) : Sp := Sp4 fun v x y z H Q E => CFR K ∧ ∃ (a dx : Addr) (w : Wd), v = .ref a ∧ H a = some (.ins (aC K w) dx []) ∧ Q .non (upd H a (.ins (aC K w) dx [("first", x), ("last", y), ("worth", z)]))
def rMake (C : Addr) (sp : Sp) (dvs : List V) (E : XK) (vs : List V) (H1 : Hp) (Q : VK) : Prop := ∀ x dx, H1 x = none → H1 dx = none → dx ≠ x → sp (.ref x :: (vs ++ dvs)) (upd (upd H1 dx (.own x)) x (.ins C dx [])) (fun v H2 => v = .non ∧ Q (.ref x) H2) E
theorem g_tMake {C : Addr} {sp : Sp} {dvs : List V} {E : XK} {t : TA} {σ : L2.St} {H : Hp} {Q : VK} (h : t σ H fun vs H1 => rMake C sp dvs E vs H1 Q) : tMake C sp dvs E t σ H Q := h
theorem g_mkRule {K : PySem.W.Frag} {E : XK} {H : Hp} {Q : VK} {x y z : V} (w : Wd) (c : CFR K) (q : ∀ v H', Same H H' → InsAt K H' v w x y z → Q v H') : rMake (aC K w) (sp_Rule_init K) [] E [x, y, z] H Q := by
  intro a dx ha hd hne
  have h1 : upd H dx (.own a) a = none := by rw [upd_ne hne.symm]; exact ha
  refine ⟨_, _, _, _, rfl, c, a, dx, w, rfl, upd_same, rfl, q _ _ ?_ ⟨a, dx, rfl, upd_same⟩⟩
  rw [upd_upd]
  exact (same_new hd).trans (same_new h1)
theorem g_mkPrice {K : PySem.W.Frag} {E : XK} {H : Hp} {Q : VK} {x y z : V} (c : CFR K) (q : ∀ v H', Same H H' → InsAt K H' v .price x y z → Q v H') : rMake (He.ga K "Price") (sp_Rule_init K) [] E [x, y, z] H Q := g_mkRule .price c q
theorem g_mkCome {K : PySem.W.Frag} {E : XK} {H : Hp} {Q : VK} {x y z : V} (c : CFR K) (q : ∀ v H', Same H H' → InsAt K H' v .come x y z → Q v H') : rMake (He.ga K "Come") (sp_Rule_init K) [] E [x, y, z] H Q := g_mkRule .come c q
theorem g_mkGo {K : PySem.W.Frag} {E : XK} {H : Hp} {Q : VK} {x y z : V} (c : CFR K) (q : ∀ v H', Same H H' → InsAt K H' v .go x y z → Q v H') : rMake (He.ga K "Go") (sp_Rule_init K) [] E [x, y, z] H Q := g_mkRule .go c q
theorem g_mkLeast {K : PySem.W.Frag} {E : XK} {H : Hp} {Q : VK} {x y z : V} (c : CFR K) (q : ∀ v H', Same H H' → InsAt K H' v .least x y z → Q v H') : rMake (He.ga K "Least") (sp_Rule_init K) [] E [x, y, z] H Q := g_mkRule .least c q
theorem g_mkMost {K : PySem.W.Frag} {E : XK} {H : Hp} {Q : VK} {x y z : V} (c : CFR K) (q : ∀ v H', Same H H' → InsAt K H' v .most x y z → Q v H') : rMake (He.ga K "Most") (sp_Rule_init K) [] E [x, y, z] H Q := g_mkRule .most c q
theorem g_mkDeal {K : PySem.W.Frag} {E : XK} {H : Hp} {Q : VK} {x y z : V} (c : CFR K) (q : ∀ v H', Same H H' → InsAt K H' v .deal x y z → Q v H') : rMake (He.ga K "Deal") (sp_Rule_init K) [] E [x, y, z] H Q := g_mkRule .deal c q
theorem g_mkFee {K : PySem.W.Frag} {E : XK} {H : Hp} {Q : VK} {x y z : V} (c : CFR K) (q : ∀ v H', Same H H' → InsAt K H' v .fee x y z → Q v H') : rMake (He.ga K "Fee") (sp_Rule_init K) [] E [x, y, z] H Q := g_mkRule .fee c q
def sp_word (K : PySem.W.Frag) (w : Wd) : Sp := Sp1 fun x H Q E => Q (.str w.word) H
theorem g_word {K : PySem.W.Frag} {w : Wd} {v : V} {H : Hp} {Q : VK} {E : XK} (q : Q (.str w.word) H) : sp_word K w (v :: ([] ++ [])) H Q E := ⟨v, rfl, q⟩
abbrev sp_Price_word (K : PySem.W.Frag) : Sp := sp_word K .price
abbrev sp_Come_word (K : PySem.W.Frag) : Sp := sp_word K .come
abbrev sp_Go_word (K : PySem.W.Frag) : Sp := sp_word K .go
abbrev sp_Least_word (K : PySem.W.Frag) : Sp := sp_word K .least
abbrev sp_Most_word (K : PySem.W.Frag) : Sp := sp_word K .most
abbrev sp_Deal_word (K : PySem.W.Frag) : Sp := sp_word K .deal
abbrev sp_Fee_word (K : PySem.W.Frag) : Sp := sp_word K .fee
def sp_fits (K : PySem.W.Frag) (w : Wd) : Sp := Sp1 fun v H Q E => CFR K ∧ ∃ x y z d, InsAt K H v w x y z ∧ At H [] z d ∧ Q (.bl (fitsD w d)) H
theorem g_fits {K : PySem.W.Frag} {w : Wd} {v x y z : V} {d : PyData} {H : Hp} {Q : VK} {E : XK} (c : CFR K) (i : InsAt K H v w x y z) (h : At H [] z d) (q : Q (.bl (fitsD w d)) H) : sp_fits K w (v :: ([] ++ [])) H Q E := ⟨v, rfl, c, x, y, z, d, i, h, q⟩
abbrev sp_Price_fits (K : PySem.W.Frag) : Sp := sp_fits K .price
abbrev sp_Come_fits (K : PySem.W.Frag) : Sp := sp_fits K .come
abbrev sp_Go_fits (K : PySem.W.Frag) : Sp := sp_fits K .go
abbrev sp_Least_fits (K : PySem.W.Frag) : Sp := sp_fits K .least
abbrev sp_Most_fits (K : PySem.W.Frag) : Sp := sp_fits K .most
abbrev sp_Deal_fits (K : PySem.W.Frag) : Sp := sp_fits K .deal
abbrev sp_Fee_fits (K : PySem.W.Frag) : Sp := sp_fits K .fee
/-- the rule's tuple: a new one -/
def sp_Rule_told (K : PySem.W.Frag) : Sp := Sp1 fun v H Q E => CFR K ∧ ∃ w x y z, InsAt K H v w x y z ∧ ∀ p H', Same H H' → Fr H p → H' p = some (.tup [.str w.word, x, y, z]) → Q (.ref p) H'
abbrev sp_told (K : PySem.W.Frag) (_ : Wd) : Sp := sp_Rule_told K
theorem g_told {K : PySem.W.Frag} {w u : Wd} {v x y z : V} {H : Hp} {Q : VK} {E : XK} (c : CFR K) (i : InsAt K H v w x y z) (q : ∀ p H', Same H H' → Fr H p → H' p = some (.tup [.str w.word, x, y, z]) → Q (.ref p) H') : sp_told K u (v :: ([] ++ [])) H Q E := ⟨v, rfl, c, w, x, y, z, i, q⟩
def sp_Rule_tells (K : PySem.W.Frag) : Sp := Sp2 fun v u H Q E => CFR K ∧ ∃ w f l z d, InsAt K H v w (.int f) (.int l) z ∧ u = .int d ∧ Q (.bl (decide (f ≤ d) && decide (d ≤ l))) H
abbrev sp_tells (K : PySem.W.Frag) (_ : Wd) : Sp := sp_Rule_tells K
def sp_made (K : PySem.W.Frag) : Sp := Sp4 fun u x y z H Q E => CFR K ∧ ∃ w : Wd, u = .str w.word ∧ ∀ v H', Same H H' → InsAt K H' v w x y z → Q v H'
theorem g_made {K : PySem.W.Frag} {w : Wd} {x y z : V} {H : Hp} {Q : VK} {E : XK} (c : CFR K) (q : ∀ v H', Same H H' → InsAt K H' v w x y z → Q v H') : sp_made K ([.str w.word, x, y, z] ++ []) H Q E := ⟨_, _, _, _, rfl, c, w, rfl, q⟩
def wordOf (z : Str) : Option Wd := [Wd.price, .come, .go, .least, .most, .deal, .fee].find? fun w => decide (w.word = z)
/-- the rule that data tell -/
def asRule : PyData → Option RuleD
  | .tuple [.str z, .int f, .int l, d] => match wordOf z with
    | some w => if (isStr (.tuple [.int f, .int l]) && fitsD w d) = true then some ⟨w, f, l, d⟩ else none
    | none => none
  | _ => none
def sp_rule_of (K : PySem.W.Frag) : Sp := Sp1 fun x H Q E => CFR K ∧ ∃ d, At H [] x d ∧ (asRule d = none → ∀ H', Same H H' → Q .non H') ∧ ∀ r, asRule d = some r → ∀ v H', Same H H' → RuleAt K H' v r → Q v H'
theorem g_rule_of {K : PySem.W.Frag} {x : V} {d : PyData} {H : Hp} {Q : VK} {E : XK} (c : CFR K) (h : At H [] x d) (q1 : asRule d = none → ∀ H', Same H H' → Q .non H') (q2 : ∀ r, asRule d = some r → ∀ v H', Same H H' → RuleAt K H' v r → Q v H') : sp_rule_of K ([x] ++ []) H Q E := ⟨x, rfl, c, d, h, q1, q2⟩
theorem wordOf_word (w : Wd) : wordOf w.word = some w := by cases w <;> decide
theorem asRule_told {r : RuleD} (h : r.good) : asRule r.told = some r := by
  obtain ⟨h1, h2, h3, h4⟩ := h
  unfold asRule RuleD.told
  simp only [wordOf_word]
  rw [if_pos]
  rw [h4, Bool.and_true]
  show (isDay (.int r.f) && (isDay (.int r.l) && decide (r.f ≤ r.l))) = true
  unfold isDay
  simp
  omega
/-- a rule's tuple -/
def RuT (H : Hp) (v : V) (r : RuleD) : Prop := ∃ p wv, v = .ref p ∧ H p = some (.tup [.str r.w.word, .int r.f, .int r.l, wv]) ∧ Td H wv r.d
theorem RuT.tk {H H' : Hp} {v : V} {r : RuleD} (k : Tk H H') (h : RuT H v r) : RuT H' v r := let ⟨p, wv, e, h, q⟩ := h; ⟨p, wv, e, k _ _ h, q.tk k⟩
theorem RuT.td {H : Hp} {v : V} {r : RuleD} (h : RuT H v r) : Td H v r.told := by
  obtain ⟨p, wv, rfl, h, q⟩ := h
  exact .tup h (.cons (.str _) (.cons (.int _) (.cons (.int _) (.cons q .nil))))
/-! YI: the rules' defs keep what they promise. -/
open PySem PySem.Spec PyProof.Rows L2
theorem isDeal_no {ds : List PyData} (h : ds.length ≠ 2) : isDeal (.tuple ds) = false := by
  match ds, h with
  | [], _ => rfl
  | [_], _ => rfl
  | [_, _], h => exact absurd rfl h
  | _ :: b :: _ :: _, _ => cases b <;> rfl
theorem isDeal_n {a b : PyData} (h : isNights a = false) : isDeal (.tuple [a, b]) = false := by
  cases b <;> first | rfl | (show (isNights a && _) = false; rw [h]; rfl)
theorem isDeal_w {a b : PyData} (h : isW b = false) : isDeal (.tuple [a, b]) = false := by
  cases b <;> first | rfl | cases h
theorem isNights_int {d : PyData} (h : isNights d = true) : ∃ i, d = .int i := by
  cases d with
  | int i => exact ⟨i, rfl⟩
  | _ => cases h
theorem isW_int {d : PyData} (h : isW d = true) : ∃ i, d = .int i := by
  cases d with
  | int i => exact ⟨i, rfl⟩
  | _ => cases h
theorem ats2' {H : Hp} {L : List Addr} {xs : List V} {ds : List PyData} (r : Ats H L xs ds) (h : xs.length = 2) : ∃ x y a b, xs = [x, y] ∧ ds = [a, b] ∧ At H L x a ∧ At H L y b := by
  match xs, ds, r, h with
  | [x, y], [a, b], .cons h1 (.cons h2 .nil), _ => exact ⟨x, y, a, b, rfl, rfl, h1, h2⟩
theorem ats4 {H : Hp} {L : List Addr} {xs : List V} {ds : List PyData} (r : Ats H L xs ds) (h : xs.length = 4) : ∃ x y z u a b c d, xs = [x, y, z, u] ∧ ds = [a, b, c, d] ∧ At H L x a ∧ At H L y b ∧ At H L z c ∧ At H L u d := by
  match xs, ds, r, h with
  | [x, y, z, u], [a, b, c, d], .cons h1 (.cons h2 (.cons h3 (.cons h4 .nil))), _ => exact ⟨x, y, z, u, a, b, c, d, rfl, rfl, h1, h2, h3, h4⟩
theorem asRule_no {ds : List PyData} (h : ds.length ≠ 4) : asRule (.tuple ds) = none := by
  unfold asRule
  split
  · rename_i e
    injection e with e
    subst e
    exact absurd rfl h
  · rfl
theorem asRule_w {z : Str} {b c d : PyData} (h : wordOf z = none) : asRule (.tuple [.str z, b, c, d]) = none := by
  unfold asRule
  split
  · rename_i z' f l d' e
    injection e with e
    injection e with e1 e
    injection e1 with e1
    subst e1
    rw [h]
  · rfl
theorem asRule_s {z : Str} {b c d : PyData} (h : isStr (.tuple [b, c]) = false) : asRule (.tuple [.str z, b, c, d]) = none := by
  unfold asRule
  split
  · rename_i z' f l d' e
    injection e with e
    injection e with e1 e
    injection e with e2 e
    injection e with e3 e
    subst e2 e3
    split
    · rw [h, Bool.false_and, if_neg Bool.false_ne_true]
    · rfl
  · rfl
theorem isStr_int {b c : PyData} (h : isStr (.tuple [b, c]) = true) : ∃ f l, b = .int f ∧ c = .int l := by
  unfold isStr at h
  split at h
  · rename_i f l e
    injection e with e
    injection e with e1 e
    injection e with e2 e
    exact ⟨f, l, e1, e2⟩
  · cases h
theorem any_find {α : Type} (p : α → Bool) : ∀ l : List α, l.any p = (l.find? p).isSome
  | [] => rfl
  | a :: l => by
    rw [List.any_cons, List.find?_cons, any_find p l]
    cases p a <;> simp
theorem inV_words (z : Str) : inV (.str z) (wordsL.map V.str) = (wordOf z).isSome := by
  have e : wordsL = [Wd.price, .come, .go, .least, .most, .deal, .fee].map Wd.word := rfl
  unfold inV wordOf
  rw [e, List.map_map, List.any_map, ← any_find]
  congr 1
theorem wordOf_some {z : Str} {w : Wd} (h : wordOf z = some w) : z = w.word := by
  have := List.find?_some h
  exact (of_decide_eq_true this).symm
theorem td_of_fits {H : Hp} {v : V} {w : Wd} {d : PyData} (h : At H [] v d) (k : fitsD w d = true) : Td H v d := by
  cases h with
  | non => exact .non
  | bl b => exact .bl b
  | int i => exact .int i
  | str z => exact .str z
  | lst n h r => cases w <;> cases k
  | @tup a xs ds n h r =>
    have hd : isDeal (.tuple ds) = true := by cases w <;> first | exact k | cases k
    by_cases hl : ds.length = 2
    · obtain ⟨x, y, p, q, rfl, rfl, hx, hy⟩ := ats2' r (by rw [Ats.len r]; exact hl)
      have hp : isNights p = true := by
        cases e : isNights p with
        | true => rfl
        | false => rw [isDeal_n e] at hd; cases hd
      have hq : isW q = true := by
        cases e : isW q with
        | true => rfl
        | false => rw [isDeal_w e] at hd; cases hd
      obtain ⟨i, rfl⟩ := isNights_int hp
      obtain ⟨j, rfl⟩ := isW_int hq
      cases hx
      cases hy
      exact .tup h (.cons (.int i) (.cons (.int j) .nil))
    · rw [isDeal_no hl] at hd; cases hd
def t_Rule_init (K : PySem.W.Frag) : TS :=
  (tSeq (sFld K (tVar 0) (tVar 1) "first")
  (tSeq (sFld K (tVar 0) (tVar 2) "last")
  (sFld K (tVar 0) (tVar 3) "worth")))
theorem pure_Rule_init {K : PySem.W.Frag} {v x y z : V} {H : Hp} {Q : VK} {E : XK} (h : sp_Rule_init K [v, x, y, z] H Q E) : t_Rule_init K { nx := fun _ H' => Q .non H', rt := Q } [some v, some x, some y, some z] H := by
  obtain ⟨v, x, y, z, e, c, a, dx, w, rfl, h, q⟩ := h
  cases e
  have n1 := CFR.no c w (f := "first") (by decide)
  have n2 := CFR.no c w (f := "last") (by decide)
  have n3 := CFR.no c w (f := "worth") (by decide)
  refine ⟨x, rfl, _, rfl, a, _, dx, _, rfl, h, CFR.cls c w, n1, (show (0 : Nat) < 1000 by decide), y, rfl, _, rfl, a, _, dx, _, rfl, upd_same, CFR.cls c w, n2, (show (1 : Nat) < 1000 by decide), z, rfl, _, rfl, a, _, dx, _, rfl, upd_same, CFR.cls c w, n3, (show (2 : Nat) < 1000 by decide), ?_⟩
  rw [upd_upd, upd_upd]
  exact q
def t_Rule_told (K : PySem.W.Frag) : TS :=
  (tRet (tTup (tCons (tRule K "word" (sp_word K) (tVar 0) tNil) (tCons (tFld K (tVar 0) "first") (tCons (tFld K (tVar 0) "last") (tCons (tFld K (tVar 0) "worth") tNil))))))
theorem pure_Rule_told {K : PySem.W.Frag} {v : V} {H : Hp} {Q : VK} {E : XK} (h : sp_Rule_told K [v] H Q E) : t_Rule_told K { nx := fun _ H' => Q .non H', rt := Q } [some v] H := by
  obtain ⟨v, e, c, w, x, y, z, i, q⟩ := h
  cases e
  unfold t_Rule_told
  walk_at "ss"
  rename_i p hp
  exact q p _ (same_new hp) hp upd_same
def t_Rule_tells (K : PySem.W.Frag) : TS :=
  (tRet (tChain rLe rLe (tFld K (tVar 0) "first") (tVar 1) (tFld K (tVar 0) "last")))
def t_Price_word (K : PySem.W.Frag) : TS :=
  (tRet (tC (.str "price")))
theorem pure_Price_word {K : PySem.W.Frag} {v : V} {H : Hp} {Q : VK} {E : XK} (h : sp_Price_word K [v] H Q E) : t_Price_word K { nx := fun _ H' => Q .non H', rt := Q } [some v] H := by
  obtain ⟨v, e, q⟩ := h
  cases e
  exact q
def t_Come_word (K : PySem.W.Frag) : TS :=
  (tRet (tC (.str "come")))
theorem pure_Come_word {K : PySem.W.Frag} {v : V} {H : Hp} {Q : VK} {E : XK} (h : sp_Come_word K [v] H Q E) : t_Come_word K { nx := fun _ H' => Q .non H', rt := Q } [some v] H := by
  obtain ⟨v, e, q⟩ := h
  cases e
  exact q
def t_Go_word (K : PySem.W.Frag) : TS :=
  (tRet (tC (.str "go")))
theorem pure_Go_word {K : PySem.W.Frag} {v : V} {H : Hp} {Q : VK} {E : XK} (h : sp_Go_word K [v] H Q E) : t_Go_word K { nx := fun _ H' => Q .non H', rt := Q } [some v] H := by
  obtain ⟨v, e, q⟩ := h
  cases e
  exact q
def t_Least_word (K : PySem.W.Frag) : TS :=
  (tRet (tC (.str "least")))
theorem pure_Least_word {K : PySem.W.Frag} {v : V} {H : Hp} {Q : VK} {E : XK} (h : sp_Least_word K [v] H Q E) : t_Least_word K { nx := fun _ H' => Q .non H', rt := Q } [some v] H := by
  obtain ⟨v, e, q⟩ := h
  cases e
  exact q
def t_Most_word (K : PySem.W.Frag) : TS :=
  (tRet (tC (.str "most")))
theorem pure_Most_word {K : PySem.W.Frag} {v : V} {H : Hp} {Q : VK} {E : XK} (h : sp_Most_word K [v] H Q E) : t_Most_word K { nx := fun _ H' => Q .non H', rt := Q } [some v] H := by
  obtain ⟨v, e, q⟩ := h
  cases e
  exact q
def t_Deal_word (K : PySem.W.Frag) : TS :=
  (tRet (tC (.str "deal")))
theorem pure_Deal_word {K : PySem.W.Frag} {v : V} {H : Hp} {Q : VK} {E : XK} (h : sp_Deal_word K [v] H Q E) : t_Deal_word K { nx := fun _ H' => Q .non H', rt := Q } [some v] H := by
  obtain ⟨v, e, q⟩ := h
  cases e
  exact q
def t_Fee_word (K : PySem.W.Frag) : TS :=
  (tRet (tC (.str "fee")))
theorem pure_Fee_word {K : PySem.W.Frag} {v : V} {H : Hp} {Q : VK} {E : XK} (h : sp_Fee_word K [v] H Q E) : t_Fee_word K { nx := fun _ H' => Q .non H', rt := Q } [some v] H := by
  obtain ⟨v, e, q⟩ := h
  cases e
  exact q
def t_Price_fits (K : PySem.W.Frag) : TS :=
  (tRet (tOrV (tOp rIsN (tFld K (tVar 0) "worth") (tC .non)) (tCall (sp_is_coins K) [] E0 (tCons (tFld K (tVar 0) "worth") tNil))))
theorem pure_Price_fits {K : PySem.W.Frag} {v : V} {H : Hp} {Q : VK} {E : XK} (h : sp_Price_fits K [v] H Q E) : t_Price_fits K { nx := fun _ H' => Q .non H', rt := Q } [some v] H := by
  obtain ⟨v, e, c, x, y, z, d, i, h, q⟩ := h
  cases e
  unfold t_Price_fits
  walk_at "ss"
  cases h with
  | non =>
    refine ite_t rfl ?_
    exact q
  | _ =>
    refine ite_f rfl ?_
    walk_at "ss"
    exact q
def t_Come_fits (K : PySem.W.Frag) : TS :=
  (tRet (tCB (rIsi K) (tCons (tFld K (tVar 0) "worth") (tCons (tC (.ty "bool")) tNil))))
theorem pure_Come_fits {K : PySem.W.Frag} {v : V} {H : Hp} {Q : VK} {E : XK} (h : sp_Come_fits K [v] H Q E) : t_Come_fits K { nx := fun _ H' => Q .non H', rt := Q } [some v] H := by
  obtain ⟨v, e, c, x, y, z, d, i, h, q⟩ := h
  cases e
  unfold t_Come_fits
  walk_at "ss"
  cases h <;> (walk_at "ss"; exact q)
def t_Go_fits (K : PySem.W.Frag) : TS :=
  (tRet (tCB (rIsi K) (tCons (tFld K (tVar 0) "worth") (tCons (tC (.ty "bool")) tNil))))
theorem pure_Go_fits {K : PySem.W.Frag} {v : V} {H : Hp} {Q : VK} {E : XK} (h : sp_Go_fits K [v] H Q E) : t_Go_fits K { nx := fun _ H' => Q .non H', rt := Q } [some v] H := by
  obtain ⟨v, e, c, x, y, z, d, i, h, q⟩ := h
  cases e
  unfold t_Go_fits
  walk_at "ss"
  cases h <;> (walk_at "ss"; exact q)
def t_Least_fits (K : PySem.W.Frag) : TS :=
  (tRet (tCall (sp_is_nights K) [] E0 (tCons (tFld K (tVar 0) "worth") tNil)))
theorem pure_Least_fits {K : PySem.W.Frag} {v : V} {H : Hp} {Q : VK} {E : XK} (h : sp_Least_fits K [v] H Q E) : t_Least_fits K { nx := fun _ H' => Q .non H', rt := Q } [some v] H := by
  obtain ⟨v, e, c, x, y, z, d, i, h, q⟩ := h
  cases e
  unfold t_Least_fits
  walk_at "ss"
  exact q
def t_Most_fits (K : PySem.W.Frag) : TS :=
  (tRet (tCall (sp_is_nights K) [] E0 (tCons (tFld K (tVar 0) "worth") tNil)))
theorem pure_Most_fits {K : PySem.W.Frag} {v : V} {H : Hp} {Q : VK} {E : XK} (h : sp_Most_fits K [v] H Q E) : t_Most_fits K { nx := fun _ H' => Q .non H', rt := Q } [some v] H := by
  obtain ⟨v, e, c, x, y, z, d, i, h, q⟩ := h
  cases e
  unfold t_Most_fits
  walk_at "ss"
  exact q
def t_Deal_fits (K : PySem.W.Frag) : TS :=
  (tSeq (tIfS (tTest (tOp rIsN (tFld K (tVar 0) "worth") (tC .non)))
  (tRet (tC (.bl true)))
  tNext)
  (tSeq (tIfS (tOr (tNot (tB (tCB (rIsi K) (tCons (tFld K (tVar 0) "worth") (tCons (tC (.ty "tuple")) tNil))))) (tTest (tOp rNe (tCB (rLenA K) (tCons (tFld K (tVar 0) "worth") tNil)) (tC (.int 2)))))
  (tRet (tC (.bl false)))
  tNext)
  (tSeq (tAsg (tFld K (tVar 0) "worth") (gTup K 2 (gCons (gName 1) (gCons (gName 2) gNil))))
  (tRet (tAndV (tCall (sp_is_nights K) [] E0 (tCons (tVar 1) tNil)) (tAndV (tCall (sp_is_whole K) [] E0 (tCons (tVar 2) tNil)) (tChain rLe rLt (tC (.int 1)) (tVar 2) (tVar 1))))))))
theorem pure_Deal_fits {K : PySem.W.Frag} {v : V} {H : Hp} {Q : VK} {E : XK} (h : sp_Deal_fits K [v] H Q E) : t_Deal_fits K { nx := fun _ H' => Q .non H', rt := Q } [some v, none, none] H := by
  obtain ⟨v, e, c, x, y, z, d, i, h, q⟩ := h
  cases e
  unfold t_Deal_fits
  walk_at "ss"
  cases h with
  | non =>
    refine ite_t rfl ?_
    exact q
  | tup n h r =>
    refine ite_f rfl ?_
    walk_at "ss"
    refine g_lenA (.inr ⟨_, SqT.of h, rfl⟩) ?_
    walk_at "ss"
    refine ite_nd (fun h1 => ?_) fun h1 => ?_
    · have hl := V.int.inj h1
      obtain ⟨x', y', a, b, rfl, rfl, hx, hy⟩ := ats2' r (by omega)
      walk_at "ss"
      refine ite_b (fun h2 => ?_) fun h2 => ?_
      · walk_at "ss"
        refine ite_b (fun h3 => ?_) fun h3 => ?_
        · obtain ⟨m, rfl⟩ := isNights_int h2
          obtain ⟨f, rfl⟩ := isW_int h3
          cases hx
          cases hy
          have q' : Q (.bl (isNights (.int m) && (decide (1 ≤ f) && decide (f < m)))) H := q
          rw [h2, Bool.true_and] at q'
          walk_at "ss"
          refine ite_b (fun h4 => ?_) fun h4 => ?_
          · walk_at "ss"
            exact and_t h4 q'
          · exact and_f h4 q'
        · have e : fitsD .deal (.tuple [a, b]) = false := isDeal_w h3
          rw [e] at q
          exact q
      · have e : fitsD .deal (.tuple [a, b]) = false := isDeal_n h2
        rw [e] at q
        exact q
    · have e : fitsD .deal (.tuple _) = false := isDeal_no (ds := _) fun z => h1 (by rw [Ats.len r, z]; rfl)
      rw [e] at q
      walk_at "ss"
      exact q
  | _ =>
    refine ite_f rfl ?_
    walk_at "ss"
    exact q
def t_Fee_fits (K : PySem.W.Frag) : TS :=
  (tRet (tCall (sp_is_coins K) [] E0 (tCons (tFld K (tVar 0) "worth") tNil)))
theorem pure_Fee_fits {K : PySem.W.Frag} {v : V} {H : Hp} {Q : VK} {E : XK} (h : sp_Fee_fits K [v] H Q E) : t_Fee_fits K { nx := fun _ H' => Q .non H', rt := Q } [some v] H := by
  obtain ⟨v, e, c, x, y, z, d, i, h, q⟩ := h
  cases e
  unfold t_Fee_fits
  walk_at "ss"
  exact q
def t_made (K : PySem.W.Frag) : TS :=
  (tSeq (tIfS (tTest (tOp rEq (tVar 0) (tC (.str "price"))))
  (tRet (tMake (He.ga K "Price") (sp_Rule_init K) [] E0 (tCons (tVar 1) (tCons (tVar 2) (tCons (tVar 3) tNil)))))
  tNext)
  (tSeq (tIfS (tTest (tOp rEq (tVar 0) (tC (.str "come"))))
  (tRet (tMake (He.ga K "Come") (sp_Rule_init K) [] E0 (tCons (tVar 1) (tCons (tVar 2) (tCons (tVar 3) tNil)))))
  tNext)
  (tSeq (tIfS (tTest (tOp rEq (tVar 0) (tC (.str "go"))))
  (tRet (tMake (He.ga K "Go") (sp_Rule_init K) [] E0 (tCons (tVar 1) (tCons (tVar 2) (tCons (tVar 3) tNil)))))
  tNext)
  (tSeq (tIfS (tTest (tOp rEq (tVar 0) (tC (.str "least"))))
  (tRet (tMake (He.ga K "Least") (sp_Rule_init K) [] E0 (tCons (tVar 1) (tCons (tVar 2) (tCons (tVar 3) tNil)))))
  tNext)
  (tSeq (tIfS (tTest (tOp rEq (tVar 0) (tC (.str "most"))))
  (tRet (tMake (He.ga K "Most") (sp_Rule_init K) [] E0 (tCons (tVar 1) (tCons (tVar 2) (tCons (tVar 3) tNil)))))
  tNext)
  (tSeq (tIfS (tTest (tOp rEq (tVar 0) (tC (.str "deal"))))
  (tRet (tMake (He.ga K "Deal") (sp_Rule_init K) [] E0 (tCons (tVar 1) (tCons (tVar 2) (tCons (tVar 3) tNil)))))
  tNext)
  (tRet (tMake (He.ga K "Fee") (sp_Rule_init K) [] E0 (tCons (tVar 1) (tCons (tVar 2) (tCons (tVar 3) tNil)))))))))))
theorem pure_made {K : PySem.W.Frag} {u x y z : V} {H : Hp} {Q : VK} {E : XK} (h : sp_made K [u, x, y, z] H Q E) : t_made K { nx := fun _ H' => Q .non H', rt := Q } [some u, some x, some y, some z] H := by
  obtain ⟨u, x, y, z, e, c, w, rfl, q⟩ := h
  cases e
  unfold t_made
  cases w <;> (walk_at "ss"; repeat (first | (refine ite_dt rfl ?_; walk_at "ss") | (refine ite_df (by decide) ?_; walk_at "ss"))) <;> exact q _ _ (by assumption) (by assumption)
def t_rule_of (K : PySem.W.Frag) : TS :=
  (tSeq (tIfS (tOr (tNot (tB (tCB (rIsi K) (tCons (tVar 0) (tCons (tC (.ty "tuple")) tNil))))) (tOr (tTest (tOp rNe (tCB (rLen K) (tCons (tVar 0) tNil)) (tC (.int 4)))) (tOr (tNot (tB (tCB (rIsi K) (tCons (tOp (rIxT K) (tVar 0) (tC (.int 0))) (tCons (tC (.ty "str")) tNil))))) (tTest (tOp (rIn K true) (tOp (rIxT K) (tVar 0) (tC (.int 0))) (tC (.ref (He.ga K "WORDS"))))))))
  (tRet (tC .non))
  tNext)
  (tSeq (tIfS (tNot (tB (tCall (sp_is_stretch K) [] E0 (tCons (tTup (tCons (tOp (rIxT K) (tVar 0) (tC (.int 1))) (tCons (tOp (rIxT K) (tVar 0) (tC (.int 2))) tNil))) tNil))))
  (tRet (tC .non))
  tNext)
  (tSeq (tAsg (tCall (sp_made K) [] E0 (tCons (tOp (rIxT K) (tVar 0) (tC (.int 0))) (tCons (tOp (rIxT K) (tVar 0) (tC (.int 1))) (tCons (tOp (rIxT K) (tVar 0) (tC (.int 2))) (tCons (tOp (rIxT K) (tVar 0) (tC (.int 3))) tNil))))) (gName 1))
  (tSeq (tIfS (tNot (tB (tRule K "fits" (sp_fits K) (tVar 1) tNil)))
  (tRet (tC .non))
  tNext)
  (tRet (tVar 1))))))
theorem pure_rule_of {K : PySem.W.Frag} {x : V} {H : Hp} {Q : VK} {E : XK} (h : sp_rule_of K [x] H Q E) : t_rule_of K { nx := fun _ H' => Q .non H', rt := Q } [some x, none] H := by
  obtain ⟨x, e, c, d, h, q1, q2⟩ := h
  cases e
  unfold t_rule_of
  cases h with
  | tup n h r =>
    walk_at "ss"
    refine ite_nd (fun h1 => ?_) fun h1 => ?_
    · have hl := V.int.inj h1
      obtain ⟨x0, x1, x2, x3, a0, a1, a2, a3, rfl, rfl, k0, k1, k2, k3⟩ := ats4 r (by omega)
      cases k0 with
      | str z =>
        walk_at "ss"
        refine ⟨_, _, rfl, .inr (CFR.words c _), rfl, by decide, ?_⟩
        rw [inV_words]
        walk_at "ss"
        cases ew : wordOf z with
        | none =>
          refine ite_t rfl ?_
          walk_at "ss"
          exact q1 (asRule_w ew) _ (Same.refl _)
        | some w =>
          obtain rfl := wordOf_some ew
          refine ite_f rfl ?_
          walk_at "ss"
          rename_i p hp
          refine ite_b (fun h4 => ?_) fun h4 => ?_
          · walk_at "ss"
            exact q1 (asRule_s (by simpa using h4)) _ (same_new hp)
          · have h5 : isStr (.tuple [a1, a2]) = true := by simpa using h4
            obtain ⟨f, l, rfl, rfl⟩ := isStr_int h5
            cases k1
            cases k2
            walk_at "ss"
            refine g_made c fun v H' hs hi => ?_
            walk_at "ss"
            have eR : asRule (.tuple [.str w.word, .int f, .int l, a3]) = if (isStr (.tuple [.int f, .int l]) && fitsD w a3) = true then some ⟨w, f, l, a3⟩ else none := by
              unfold asRule
              simp only [ew]
            rw [h5, Bool.true_and] at eR
            refine ite_b (fun h6 => ?_) fun h6 => ?_
            · walk_at "ss"
              refine q1 ?_ _ (by walk_at "sm")
              rw [eR, if_neg (by simpa using h6)]
            · walk_at "ss"
              have h7 : fitsD w a3 = true := by simpa using h6
              refine q2 ⟨w, f, l, a3⟩ ?_ v _ (by walk_at "sm") (RuleAt.of hi (td_of_fits (by walk_at "ad") h7))
              rw [eR, if_pos h7]
      | _ =>
        walk_at "ss"
        exact q1 rfl _ (Same.refl _)
    · walk_at "ss"
      exact q1 (asRule_no fun z => h1 (by rw [Ats.len r, z]; rfl)) _ (Same.refl _)
  | _ =>
    walk_at "ss"
    exact q1 rfl _ (Same.refl _)
/-! YQ: books in the heap. -/
open PySem PySem.Spec PyProof.Rows L2
/-- what is told of the class of books -/
def CFB (K : PySem.W.Frag) : Prop := exBook K = true
theorem CFB.cls {K : PySem.W.Frag} (c : CFB K) : Cls K (He.ga K "Book") := He.cls_ok (He.ba c).1
theorem CFB.no {K : PySem.W.Frag} (c : CFB K) {f : Str} (h : f ∈ (["kept", "newest"] : List Str)) : NoAttr K (He.ga K "Book") f := He.noat_ok (List.all_eq_true.mp (He.ba (He.ba c).2).1 f h)
/-- objects and tuples stay -/
structure Ik (H H' : Hp) : Prop where
  ins : ∀ a C dx fs, H a = some (.ins C dx fs) → H' a = some (.ins C dx fs)
  tup : Tk H H'
theorem Ik.trans {H H1 H2 : Hp} (a : Ik H H1) (b : Ik H1 H2) : Ik H H2 := ⟨fun x C dx fs h => b.ins x C dx fs (a.ins x C dx fs h), a.tup.trans b.tup⟩
theorem Same.ik {H H' : Hp} (e : Same H H') : Ik H H' := ⟨fun a C dx fs h => e _ _ h, Same.tk e⟩
theorem Nk.ik {H H' : Hp} (k : Nk H H') : Ik H H' := ⟨fun a C dx fs h => k _ _ h (fun xs e => by cases e), k.tk⟩
theorem ik_dic {H : Hp} {p : Addr} {o : HO} {kvs : List (Key × V)} (h : H p = some (.dK kvs)) : Ik H (upd H p o) :=
  ⟨fun a C dx fs e => at_ne (fun z => by rw [z, h] at e; cases e) e, fun a xs e => at_ne (fun z => by rw [z, h] at e; cases e) e⟩
theorem RuleAt.ik {K : PySem.W.Frag} {H H' : Hp} {v : V} {r : RuleD} (k : Ik H H') (h : RuleAt K H v r) : RuleAt K H' v r := let ⟨a, dx, wv, e, h, q⟩ := h; ⟨a, dx, wv, e, k.ins _ _ _ _ h, q.tk k.tup⟩
abbrev RulesAt (K : PySem.W.Frag) (H : Hp) : List V → List RuleD → Prop := Paired (RuleAt K H)
theorem RulesAt.ik {K : PySem.W.Frag} {H H' : Hp} {xs : List V} {rs : List RuleD} (k : Ik H H') (h : RulesAt K H xs rs) : RulesAt K H' xs rs := Paired.mapP h fun _ _ q => q.ik k
/-- the rules of a word, the newest first -/
def newestOf (rs : List RuleD) (w : Wd) : List RuleD := (rs.filter fun r => decide (r.w = w)).reverse
theorem newest_snoc (rs : List RuleD) (r : RuleD) (w : Wd) : newestOf (rs ++ [r]) w = if r.w = w then r :: newestOf rs w else newestOf rs w := by
  unfold newestOf
  rw [List.filter_append, List.reverse_append]
  by_cases h : r.w = w <;> simp [h]
/-- a book's parts -/
structure BookIn (K : PySem.W.Frag) (H : Hp) (a dx lk nd : Addr) (kvs : List (Key × V)) (nw : Wd → Option Addr) (rs : List RuleD) : Prop where
  obj : H a = some (.ins (He.ga K "Book") dx [("kept", .ref lk), ("newest", .ref nd)])
  kept : ∃ ks, H lk = some (.lst ks) ∧ RulesAt K H ks rs
  dic : H nd = some (.dK kvs)
  small : kvs.length ≤ rs.length
  key : ∀ w : Wd, valV kvs (.inr w.word) = (nw w).map V.ref
  here : ∀ w l, nw w = some l → ∃ xs, H l = some (.lst xs) ∧ RulesAt K H xs (newestOf rs w)
  none' : ∀ w, nw w = none → newestOf rs w = []
  inj : ∀ w w' l, nw w = some l → nw w' = some l → w = w'
  ne : ∀ w l, nw w = some l → l ≠ lk
theorem Wd.word_inj {w v : Wd} (h : w.word = v.word) : w = v := by
  have h1 := wordOf_word w
  rw [h, wordOf_word] at h1
  exact (Option.some.inj h1).symm
/-- one more rule -/
theorem BookIn.step {K : PySem.W.Frag} {H H' : Hp} {a dx lk nd l : Addr} {kvs kvs' : List (Key × V)} {nw : Wd → Option Addr} {rs : List RuleD} {r : RuleD} {v : V} {ks xs : List V} (B : BookIn K H a dx lk nd kvs nw rs) (hv : RuleAt K H' v r) (ik : Ik H H')
    (hk : H lk = some (.lst ks)) (hk' : H' lk = some (.lst (ks ++ [v]))) (dic : H' nd = some (.dK kvs')) (small : kvs'.length ≤ rs.length + 1)
    (key : ∀ w : Wd, valV kvs' (.inr w.word) = if w = r.w then some (.ref l) else valV kvs (.inr w.word))
    (hl' : H' l = some (.lst (v :: xs))) (hl : (nw r.w = some l ∧ H l = some (.lst xs)) ∨ (nw r.w = none ∧ xs = [] ∧ l ≠ lk ∧ ∀ w, nw w ≠ some l))
    (oth : ∀ w p, w ≠ r.w → nw w = some p → ∀ ys, H p = some (.lst ys) → H' p = some (.lst ys)) :
    BookIn K H' a dx lk nd kvs' (fun w => if w = r.w then some l else nw w) (rs ++ [r]) := by
  obtain ⟨ks0, hk0, hks⟩ := B.kept
  obtain rfl : ks0 = ks := by rw [hk] at hk0; cases hk0; rfl
  have hxs : RulesAt K H' xs (newestOf rs r.w) := by
    rcases hl with ⟨h1, h2⟩ | ⟨h1, h2, -⟩
    · obtain ⟨ys, h3, h4⟩ := B.here _ _ h1
      rw [h2] at h3
      cases h3
      exact h4.ik ik
    · rw [h2, B.none' _ h1]
      exact .nil
  have lne : l ≠ lk := by
    rcases hl with ⟨h1, -⟩ | ⟨-, -, h3, -⟩
    · exact B.ne _ _ h1
    · exact h3
  have lother : ∀ w, w ≠ r.w → nw w ≠ some l := fun w hw e => by
    rcases hl with ⟨h1, -⟩ | ⟨-, -, -, h4⟩
    · exact hw (B.inj _ _ _ e h1)
    · exact h4 w e
  refine ⟨ik.ins _ _ _ _ B.obj, ⟨_, hk', Paired.snoc (hks.ik ik) hv⟩, dic, by rw [List.length_append]; exact small, fun w => ?_, fun w p hp => ?_, fun w hw => ?_, fun w w' p h1 h2 => ?_, fun w p hp => ?_⟩
  · rw [key]
    by_cases h : w = r.w
    · rw [if_pos h, if_pos h]; rfl
    · rw [if_neg h, if_neg h, B.key]
  · by_cases h : w = r.w
    · rw [if_pos h] at hp
      cases hp
      subst h
      refine ⟨_, hl', ?_⟩
      rw [newest_snoc, if_pos rfl]
      exact .cons hv hxs
    · rw [if_neg h] at hp
      obtain ⟨ys, h3, h4⟩ := B.here _ _ hp
      refine ⟨ys, oth w p h hp ys h3, ?_⟩
      rw [newest_snoc, if_neg (Ne.symm h)]
      exact h4.ik ik
  · by_cases h : w = r.w
    · rw [if_pos h] at hw; cases hw
    · rw [if_neg h] at hw
      rw [newest_snoc, if_neg (Ne.symm h)]
      exact B.none' _ hw
  · by_cases e1 : w = r.w
    · by_cases e2 : w' = r.w
      · rw [e1, e2]
      · rw [if_pos e1] at h1
        rw [if_neg e2] at h2
        cases h1
        exact absurd h2 (lother _ e2)
    · rw [if_neg e1] at h1
      by_cases e2 : w' = r.w
      · rw [if_pos e2] at h2
        cases h2
        exact absurd h1 (lother _ e1)
      · rw [if_neg e2] at h2
        exact B.inj _ _ _ h1 h2
  · by_cases e1 : w = r.w
    · rw [if_pos e1] at hp
      cases hp
      exact lne
    · rw [if_neg e1] at hp
      exact B.ne _ _ hp
/-- the dict and the lists of a book -/
def BookF (lk nd : Addr) (nw : Wd → Option Addr) : List Addr := nd :: lk :: [Wd.price, .come, .go, .least, .most, .deal, .fee].filterMap nw
theorem bookF_mem {lk nd : Addr} {nw : Wd → Option Addr} {w : Wd} {l : Addr} (h : nw w = some l) : l ∈ BookF lk nd nw := by
  refine List.mem_cons_of_mem _ (List.mem_cons_of_mem _ (List.mem_filterMap.mpr ⟨w, ?_, h⟩))
  cases w <;> simp
/-- a book; F: its lists -/
def BookAt (K : PySem.W.Frag) (H : Hp) (F : List Addr) (v : V) (rs : List RuleD) : Prop := ∃ a dx lk nd kvs nw, v = .ref a ∧ F = BookF lk nd nw ∧ BookIn K H a dx lk nd kvs nw rs
theorem BookAt.mono {K : PySem.W.Frag} {H H' : Hp} {F : List Addr} {v : V} {rs : List RuleD} (k : Nk H H') (l : ∀ p ∈ F, ∀ xs, H p = some (.lst xs) → H' p = some (.lst xs)) (h : BookAt K H F v rs) : BookAt K H' F v rs := by
  obtain ⟨a, dx, lk, nd, kvs, nw, rfl, rfl, B⟩ := h
  obtain ⟨ks, h1, h2⟩ := B.kept
  have ik := k.ik
  refine ⟨a, dx, lk, nd, kvs, nw, rfl, rfl, ik.ins _ _ _ _ B.obj, ⟨ks, l _ (by simp [BookF]) _ h1, h2.ik ik⟩, k _ _ B.dic (fun xs e => by cases e), B.small, B.key, fun w p hp => ?_, B.none', B.inj, B.ne⟩
  obtain ⟨xs, h3, h4⟩ := B.here w p hp
  exact ⟨xs, l _ (bookF_mem hp) _ h3, h4.ik ik⟩
theorem BookAt.known {K : PySem.W.Frag} {H : Hp} {F : List Addr} {v : V} {rs : List RuleD} (h : BookAt K H F v rs) : ∀ p ∈ F, ∃ o, H p = some o := by
  obtain ⟨a, dx, lk, nd, kvs, nw, rfl, rfl, B⟩ := h
  intro p hp
  rcases List.mem_cons.mp hp with rfl | hp
  · exact ⟨_, B.dic⟩
  rcases List.mem_cons.mp hp with rfl | hp
  · obtain ⟨ks, h1, -⟩ := B.kept
    exact ⟨_, h1⟩
  · obtain ⟨w, -, hw⟩ := List.mem_filterMap.mp hp
    obtain ⟨xs, h1, -⟩ := B.here w p hw
    exact ⟨_, h1⟩
theorem bk_same {K : PySem.W.Frag} {H H' : Hp} {F : List Addr} {v : V} {rs : List RuleD} (k : Same H H') (h : BookAt K H F v rs) : BookAt K H' F v rs := h.mono (Same.nk k) fun p _ xs e => k _ _ e
theorem bk_kp {K : PySem.W.Frag} {H H' : Hp} {t b s : Addr} {F : List Addr} {v : V} {rs : List RuleD} (k : Kp [t, b] H H') (T : Tape H t b s) (n : ∀ p ∈ F, p ∉ [t, b]) (h : BookAt K H F v rs) : BookAt K H' F v rs := h.mono (nk_kp T k) fun q hq xs e => k _ _ e (n q hq)
/-! YS: what a book's defs promise, and that they keep it. -/
open PySem PySem.Spec PyProof.Rows L2
/-- a raise that is never reached -/
def tNever : TS := fun _ _ _ => False
theorem ps_never {X : Cx} {s : Stmt} : PS X s tNever := ⟨fun _ _ _ _ _ _ h => h.elim⟩
def usualD : Wd → PyData
  | .price => .none | .come => .bool true | .go => .bool true | .least => .int 1 | .most => .int 14 | .deal => .none | .fee => .int 0
def usualV : Wd → V
  | .price => .non | .come => .bl true | .go => .bl true | .least => .int 1 | .most => .int 14 | .deal => .non | .fee => .int 0
def tellsD (rs : List RuleD) (w : Wd) (day : Int) : PyData := match (newestOf rs w).find? fun r => decide (r.f ≤ day) && decide (day ≤ r.l) with
  | some r => r.d
  | none => usualD w
def sp_usual (K : PySem.W.Frag) : Sp := Sp1 fun x H Q E => ∃ w : Wd, x = .str w.word ∧ Q (usualV w) H
def sp_Book_rules (K : PySem.W.Frag) : Sp := Sp1 fun v H Q E => CFR K ∧ CFB K ∧ ∃ F rs, BookAt K H F v rs ∧ rs.length ≤ 1000 ∧ ∀ p H' ys, Same H H' → Fr H p → H' p = some (.lst ys) → Paired (RuT H') ys rs → Q (.ref p) H'
theorem g_brules {K : PySem.W.Frag} {F : List Addr} {rs : List RuleD} {v : V} {H : Hp} {Q : VK} {E : XK} (c : CFR K) (cb : CFB K) (b : BookAt K H F v rs) (l : rs.length ≤ 1000) (q : ∀ p H' ys, Same H H' → Fr H p → H' p = some (.lst ys) → Paired (RuT H') ys rs → Q (.ref p) H') : sp_Book_rules K (v :: ([] ++ [])) H Q E := ⟨_, rfl, c, cb, F, rs, b, l, q⟩
def sp_Book_tells_of (K : PySem.W.Frag) : Sp := Sp3 fun v u y H Q E => CFR K ∧ CFB K ∧ ∃ F rs w day, BookAt K H F v rs ∧ u = .str w.word ∧ y = .int day ∧ ∀ x H', Same H H' → Td H' x (tellsD rs w day) → Q x H'
def sp_Book_init (K : PySem.W.Frag) : Sp := Sp2 fun v y H Q E => CFR K ∧ CFB K ∧ ∃ (a dx : Addr) (xs : List V) (rs : List RuleD), v = .ref a ∧ H a = some (.ins (He.ga K "Book") dx []) ∧ ((y = .non ∧ xs = []) ∨ ∃ p, y = .ref p ∧ SqL K H p xs) ∧ Paired (RuT H) xs rs ∧ rs.length ≤ 24 ∧ (∀ r ∈ rs, RuleD.good r) ∧
  ∀ H' F, Kp [a] H H' → BookAt K H' F v rs → (∀ p ∈ F, Fr H p) → Q .non H'
theorem g_mkBook {K : PySem.W.Frag} {E : XK} {H : Hp} {Q : VK} {vs dvs : List V} {y : V} {xs : List V} {rs : List RuleD} (c : CFR K) (cb : CFB K) (e : vs ++ dvs = [y]) (h : (y = .non ∧ xs = []) ∨ ∃ p, y = .ref p ∧ SqL K H p xs) (hp : Paired (RuT H) xs rs) (hl : rs.length ≤ 24) (hg : ∀ r ∈ rs, RuleD.good r)
    (q : ∀ v F H', Same H H' → BookAt K H' F v rs → (∀ p ∈ F, Fr H p) → Q v H') : rMake (He.ga K "Book") (sp_Book_init K) dvs E vs H Q := by
  intro a dx ha hd hne
  have h1 : upd H dx (.own a) a = none := by rw [upd_ne hne.symm]; exact ha
  have sm : Same H (upd (upd H dx (.own a)) a (.ins (He.ga K "Book") dx [])) := (same_new hd).trans (same_new h1)
  rw [e]
  refine ⟨_, _, rfl, c, cb, a, dx, xs, rs, rfl, upd_same, ?_, Paired.mapP hp fun _ _ r => r.tk (Same.tk sm), hl, hg, fun H' F k b f => ⟨rfl, q _ F H' (fun p o z => ?_) b fun p hp => Same.free sm (f p hp)⟩⟩
  · rcases h with h | ⟨p, h1, h2⟩
    · exact .inl h
    · exact .inr ⟨p, h1, Same.seq sm h2⟩
  · refine k _ _ (sm _ _ z) fun m => ?_
    rw [List.mem_singleton.mp m, ha] at z
    cases z
theorem g_bmeth {K : PySem.W.Frag} {m : Str} {sp : Sp} {t : TA} {n : Nat} {σ : L2.St} {H : Hp} {Q : VK} {v : V} {F : List Addr} {rs : List RuleD} (h : σ[n]? = some (some v)) (b : BookAt K H F v rs) (no : decide (m = "kept") = false ∧ decide (m = "newest") = false)
    (q : t σ H fun vs H2 => sp (v :: (vs ++ [])) H2 Q E0) : tMeth (He.ga K "Book") m sp [] E0 (tVar n) t σ H Q := by
  obtain ⟨a, dx, lk, nd, kvs, nw, rfl, rfl, B⟩ := b
  refine ⟨_, h, a, dx, _, rfl, B.obj, ?_, q⟩
  have h1 : (m == ("kept" : Str)) = false := beq_eq_false_iff_ne.mpr (of_decide_eq_false no.1)
  have h2 : (m == ("newest" : Str)) = false := beq_eq_false_iff_ne.mpr (of_decide_eq_false no.2)
  simp only [List.lookup, h1, h2]
theorem g_bfld {K : PySem.W.Frag} {f : Str} {n : Nat} {σ : L2.St} {H : Hp} {Q : VK} {a dx : Addr} {u x y : V} (cb : CFB K) (h : σ[n]? = some (some (.ref a))) (o : H a = some (.ins (He.ga K "Book") dx [("kept", x), ("newest", y)])) (m : f ∈ (["kept", "newest"] : List Str))
    (l : ([("kept", x), ("newest", y)] : List (Str × V)).lookup f = some u) (q : Q u H) : tFld K (tVar n) f σ H Q := ⟨_, h, a, _, dx, _, u, rfl, o, CFB.cls cb, CFB.no cb m, l, q⟩
/-- a field is written -/
def rSF (K : PySem.W.Frag) (f : Str) (x y : V) (H2 : Hp) (Q : Hp → Prop) : Prop := ∃ a C dx fs, x = .ref a ∧ H2 a = some (.ins C dx fs) ∧ Cls K C ∧ NoAttr K C f ∧ fs.length < 1000 ∧ Q (upd H2 a (.ins C dx (putF f y fs)))
theorem g_sFld {K : PySem.W.Frag} {ta tv : TE} {f : Str} {D : Ends} {σ : L2.St} {H : Hp} (q : tv σ H fun y H1 => ta σ H1 fun x H2 => rSF K f x y H2 fun H3 => D.nx σ H3) : sFld K ta tv f D σ H := q
theorem g_bset {K : PySem.W.Frag} {f : Str} {a dx : Addr} {fs : List (Str × V)} {y : V} {H : Hp} {Q : Hp → Prop} (cb : CFB K) (h : H a = some (.ins (He.ga K "Book") dx fs)) (m : f ∈ (["kept", "newest"] : List Str)) (l : fs.length < 1000) (q : Q (upd H a (.ins (He.ga K "Book") dx (putF f y fs)))) : rSF K f (.ref a) y H Q :=
  ⟨a, _, dx, fs, rfl, h, CFB.cls cb, CFB.no cb m, l, q⟩
theorem g_insert0 {H : Hp} {Q : VK} {l : Addr} {xs : List V} {y : V} (h : H l = some (.lst xs)) (z : xs.length < sizeLine) (q : Q .non (upd H l (.lst (y :: xs)))) : rInsert (.ref l) [.int 0, y] H Q :=
  ⟨l, xs, 0, y, rfl, rfl, h, z, by decide, by decide, by simpa using q⟩
theorem g_dSetd {td ty tx : TE} {σ : L2.St} {H : Hp} {Q : VK} (q : td σ H fun x H1 => ∃ a, x = .ref a ∧ IsD H1 a ∧ ty σ H1 fun y H2 => tx σ H2 fun z H3 => ∃ (kvs : List (Key × V)) (k : Key), H3 a = some (.dK kvs) ∧ y = kV k ∧ kvs.length < sizeLine ∧
  (∀ v, valV kvs k = some v → Q v H3) ∧ (valV kvs k = none → Q z (upd H3 a (.dK (putK kvs k z))))) : tDSetd td ty tx σ H Q := q
theorem g_iEnum {K : PySem.W.Frag} {σ : L2.St} {H : Hp} {ta : TA} {R : It → Hp → Prop} (h : ta σ H fun vs H1 => ∃ a xs, vs = [.ref a] ∧ SqL K H1 a xs ∧ R (Ite K a) H1) : iEnum K ta σ H R := h
theorem g_rule_ofG {K : PySem.W.Frag} {x : V} {r : RuleD} {H : Hp} {Q : VK} {E : XK} (c : CFR K) (h : RuT H x r) (g : r.good) (q : ∀ v H', Same H H' → RuleAt K H' v r → Q v H') : sp_rule_of K ([x] ++ []) H Q E :=
  g_rule_of c h.td.at0 (fun e => by rw [asRule_told g] at e; cases e) fun r' e v H' s hv => by
    rw [asRule_told g] at e
    cases e
    exact q v H' s hv
def t_usual (K : PySem.W.Frag) : TS :=
  (tSeq (tIfS (tOr (tTest (tOp rEq (tVar 0) (tC (.str "come")))) (tTest (tOp rEq (tVar 0) (tC (.str "go")))))
  (tRet (tC (.bl true)))
  tNext)
  (tSeq (tIfS (tTest (tOp rEq (tVar 0) (tC (.str "least"))))
  (tRet (tC (.int 1)))
  tNext)
  (tSeq (tIfS (tTest (tOp rEq (tVar 0) (tC (.str "most"))))
  (tRet (tC (.int 14)))
  tNext)
  (tSeq (tIfS (tTest (tOp rEq (tVar 0) (tC (.str "fee"))))
  (tRet (tC (.int 0)))
  tNext)
  (tRet (tC .non))))))
def t_Book_rules (K : PySem.W.Frag) : TS :=
  (tRet (tLc (iList K (tFld K (tVar 0) "kept")) (gName 1) tYes (tRule K "told" (sp_told K) (tVar 1) tNil) [1]))
theorem pure_Book_rules {K : PySem.W.Frag} {v : V} {H : Hp} {Q : VK} {E : XK} (h : sp_Book_rules K [v] H Q E) : t_Book_rules K { nx := fun _ H' => Q .non H', rt := Q } [some v, none] H := by
  obtain ⟨v, e, c, cb, F, rs, ⟨a, dx, lk, nd, kvs, nw, rfl, rfl, B⟩, hl, q⟩ := h
  cases e
  obtain ⟨ks, hk, hks⟩ := B.kept
  unfold t_Book_rules
  walk_at "ss"
  refine g_bfld cb rfl B.obj (by decide) rfl ?_
  walk_at "ss"
  have hlen := Paired.length hks
  refine lc_r (walk_list (K := K) (a := lk) (xs := ks)) RuT (fun _ _ _ _ e h => h.tk e) (fun i => rs[i]?) (by omega) (fun H' s => SqL.of (s _ _ hk)) ?_ ?_
  · rintro D i x H2 H3 N hD hi s2 ⟨rfl, hx⟩ hN _
    obtain ⟨r, hr, hv⟩ := Paired.getL hks hx
    obtain ⟨wv, hi, hwv⟩ := (hv.ik (Same.ik s2)).ins
    walk_at "ss"
    rename_i p H4 s4 f4 h4
    exact hN _ r _ hr s4 ⟨p, wv, rfl, h4, by walk_at "td"⟩
  intro D H2 ys hD s2 h2 hp
  walk_at "ss"
  refine q D H2 ys s2 hD h2 ?_
  have e : (List.range ks.length).filterMap (fun i => rs[i]?) = rs := by
    rw [hlen]
    have := range_flt rs some
    simpa using this
  rwa [e] at hp
def t_Book_tells_of (K : PySem.W.Frag) : TS :=
  (tSeq (tFor (iList K (tDGet2 (tFld K (tVar 0) "newest") (tVar 1) (tLst tNil))) (gName 3)
  (tIfS (tB (tRule K "tells" (sp_tells K) (tVar 3) (tCons (tVar 2) tNil)))
  (tRet (tFld K (tVar 3) "worth"))
  tNext))
  (tRet (tCall (sp_usual K) [] E0 (tCons (tVar 1) tNil))))
def t_Book_init (K : PySem.W.Frag) : TS :=
  (tSeq (tAsg (tLst tNil) (gName 2))
  (tSeq (tIfS (tTest (tOp rNotN (tVar 1) (tC .non)))
  (tAsg (tCB (rListOf K) (tCons (tVar 1) tNil)) (gName 2))
  tNext)
  (tSeq (sFld K (tVar 0) (tLst tNil) "kept")
  (tSeq (sFld K (tVar 0) tDNewK "newest")
  (tSeq (tFor (iEnum K (tCons (tVar 2) tNil)) (gTup K 2 (gCons (gName 3) (gCons (gName 4) gNil)))
  (tSeq (tAsg (tCall (sp_rule_of K) [] E0 (tCons (tVar 4) tNil)) (gName 5))
  (tSeq (tIfS (tTest (tOp rIsN (tVar 5) (tC .non)))
  tNever
  tNext)
  (tSeq (tDrop (tBM K "list" rAppend (tFld K (tVar 0) "kept") (tCons (tVar 5) tNil)))
  (tDrop (tBM K "list" rInsert (tDSetd (tFld K (tVar 0) "newest") (tRule K "word" (sp_word K) (tVar 5) tNil) (tLst tNil)) (tCons (tC (.int 0)) (tCons (tVar 5) tNil))))))))
  (tIfS (tTest (tOp rGt (tCB (rLen K) (tCons (tVar 2) tNil)) (tC (.int 24))))
  tNever
  tNext))))))
theorem pure_Book_init {K : PySem.W.Frag} {v y : V} {H : Hp} {Q : VK} {E : XK} (h : sp_Book_init K [v, y] H Q E) : t_Book_init K { nx := fun _ H' => Q .non H', rt := Q } [some v, some y, none, none, none, none] H := by
  obtain ⟨v, y, e, c, cb, a, dx, xs, rs, rfl, ho, hy, hxs, hl, hg, q⟩ := h
  cases e
  unfold t_Book_init
  walk_at "ss"
  rename_i th0 hth0
  have hlen := Paired.length hxs
  with_reducible refine jn (P := fun σ H' => ∃ th, σ = [some (.ref a), some y, some (.ref th), none, none, none] ∧ Same H H' ∧ H' th = some (.lst xs)) ?_ fun N hN => ?_
  · clear hth0
    rintro σ H1 ⟨th, rfl, s1, h1⟩
    with_reducible refine g_seq ?_
    with_reducible refine g_sFld ?_
    walk_at "ss"
    rename_i lk hlk
    refine g_bset cb (at_new hlk (s1 _ _ ho)) (by decide) (by decide) ?_
    with_reducible refine g_seq ?_
    with_reducible refine g_sFld ?_
    show ∀ nd, _ = none → _
    intro nd hnd
    walk_at "ss"
    have hla : a ≠ lk := ne_of_none (s1 _ _ ho) hlk
    have hda : a ≠ nd := ne_of_none upd_same hnd
    have hdl : lk ≠ nd := ne_of_none (o := .lst []) (at_ne hla.symm upd_same) hnd
    have htl : th ≠ lk := ne_of_none h1 hlk
    have hta : th ≠ a := fun z => by rw [z, s1 _ _ ho] at h1; cases h1
    have htd : th ≠ nd := ne_of_none (o := .lst xs) (at_ne hta (at_ne htl h1)) hnd
    have fl : Fr H lk := Same.free s1 hlk
    have fd : Fr H nd := Same.free s1 (by
      have z := hnd
      rw [upd_ne hda.symm, upd_ne hdl.symm] at z
      exact z)
    refine g_bset cb (at_ne hda upd_same) (by decide) (show (1 : Nat) < 1000 by decide) ?_
    obtain ⟨G, hG⟩ : ∃ G, G = upd (upd (upd (upd H1 lk (.lst [])) a (.ins (He.ga K "Book") dx (putF "kept" (.ref lk) []))) nd (.dK [])) a (.ins (He.ga K "Book") dx (putF "newest" (.ref nd) (putF "kept" (.ref lk) []))) := ⟨_, rfl⟩
    rw [← hG]
    have hGa : G a = some (.ins (He.ga K "Book") dx [("kept", .ref lk), ("newest", .ref nd)]) := by rw [hG]; exact upd_same
    have hGl : G lk = some (.lst []) := by rw [hG]; exact at_ne hla.symm (at_ne hdl (at_ne hla.symm upd_same))
    have hGd : G nd = some (.dK []) := by rw [hG]; exact at_ne hda.symm upd_same
    have hGt : G th = some (.lst xs) := by rw [hG]; exact at_ne hta (at_ne htd (at_ne hta (at_ne htl h1)))
    have kG : Kp [a] H G := fun p o e n => by
      have np : p ≠ a := fun z => n (by rw [z]; simp)
      rw [hG]
      exact at_ne np (at_ne (ne_of_none e fd) (at_ne np (at_ne (ne_of_none e fl) (s1 _ _ e))))
    have BG : BookIn K G a dx lk nd [] (fun _ => none) [] := ⟨hGa, ⟨[], hGl, .nil⟩, hGd, Nat.le_refl _, (fun _ => rfl), (fun _ _ e => by cases e), (fun _ _ => rfl), (fun _ _ _ e => by cases e), (fun _ _ e => by cases e)⟩
    clear hG hnd hlk h1 s1 hGa hGl hGd
    with_reducible refine g_seqF ?_
    refine g_for ?_
    refine g_iEnum ?_
    walk_at "ss"
    refine ⟨th, xs, rfl, SqL.of hGt, ?_⟩
    refine for_it (walk_enum (K := K) (a := th) (xs := xs)) (fun i σ H' => ∃ v3 v4 v5 kvs nw, σ = [some (.ref a), some y, some (.ref th), v3, v4, v5] ∧ Kp [a] H H' ∧ H' th = some (.lst xs) ∧ BookIn K H' a dx lk nd kvs nw (rs.take i) ∧ ∀ w l, nw w = some l → Fr H l ∧ l ≠ th)
      ⟨_, _, _, [], _, rfl, kG, hGt, BG, (fun _ _ e => by cases e)⟩ (fun i σ H' _ h => by obtain ⟨_, _, _, _, _, _, _, h, _⟩ := h; exact SqL.of h) ?_ ?_
    · clear BG kG hGt G H1 th0 q
      rintro i x σ H' H2 hi ⟨v3, v4, v5, kvs, nw, rfl, k', ht, B, hnw⟩ ⟨T, x1, x2, rfl, hT, rfl, h1, h2⟩
      replace hT : Fr H' T := hT
      replace h2 : xs[i]? = some x2 := h2
      obtain rfl : x1 = .int (i : Nat) := (Option.some.inj h1).symm
      obtain ⟨r, hr, hx⟩ := Paired.getL hxs h2
      have hgr := hg r (List.mem_of_getElem? hr)
      have tkA : Tk H H' := fun p ys e => k' _ _ e fun m => by rw [List.mem_singleton.mp m, ho] at e; cases e
      have hx2 : RuT (upd H' T (.tup [.int (i : Nat), x2])) x2 r := (hx.tk tkA).tk (tk_new hT)
      walk_at "ss"
      refine g_rule_ofG c hx2 hgr fun v H3 s3 hv => ?_
      walk_at "ss"
      obtain ⟨pv, dv, wv, rfl, hvo, hvd⟩ := id hv
      have s' : Same H' H3 := (same_new hT).trans s3
      obtain ⟨ks, hk, hks⟩ := B.kept
      have hk3 := s' _ _ hk
      have hkl : ks.length ≤ 24 := by
        rw [Paired.length hks, List.length_take]
        omega
      have hsm := B.small
      rw [List.length_take] at hsm
      have etk : rs.take (i + 1) = rs.take i ++ [r] := by rw [List.take_add_one, hr]; rfl
      have hla3 : a ≠ lk := hla
      have hin : InsAt K H3 (.ref pv) r.w (.int r.f) (.int r.l) wv := ⟨pv, dv, rfl, hvo⟩
      with_reducible refine g_seq ?_
      walk_at "ss"
      refine ite_df (by simp) ?_
      with_reducible refine g_next ?_
      with_reducible refine g_seqD ?_
      with_reducible refine g_drop ?_
      with_reducible refine g_bm ?_
      refine g_bfld cb rfl (s' _ _ B.obj) (by decide) rfl ?_
      walk_at "ss"
      have hin4 : InsAt K (upd H3 lk (.lst (ks ++ [.ref pv]))) (.ref pv) r.w (.int r.f) (.int r.l) wv := ins_put hk3 hin
      have dic4 : (upd H3 lk (.lst (ks ++ [.ref pv]))) nd = some (.dK kvs) := at_ne hdl.symm (s' _ _ B.dic)
      refine g_dSetd ?_
      refine g_bfld cb rfl (at_ne hla (s' _ _ B.obj)) (by decide) rfl ?_
      refine ⟨nd, rfl, .inl ⟨kvs, .inl dic4⟩, ?_⟩
      walk_at "ss"
      rename_i z hz
      have hzk : Fr H3 z := fr_new hz
      have hz' : Fr H' z := Same.free s' hzk
      have fz : Fr H z := by
        refine fr_kp hz' k' fun m => ?_
        rw [List.mem_singleton.mp m] at hz'
        have := B.obj
        rw [show H' a = none from hz'] at this
        cases this
      have zlk : z ≠ lk := (ne_of_none hk3 hzk).symm
      have zth : z ≠ th := (ne_of_none ht hz').symm
      have znd : z ≠ nd := (ne_of_none (s' _ _ B.dic) hzk).symm
      have za : z ≠ a := (ne_of_none (s' _ _ B.obj) hzk).symm
      have ik4 : Ik H' (upd (upd H3 lk (.lst (ks ++ [.ref pv]))) z (.lst [])) := (Same.ik s').trans (((nk_put hk3).trans (nk_new hz)).ik)
      have hv4 : RuleAt K (upd (upd H3 lk (.lst (ks ++ [.ref pv]))) z (.lst [])) (.ref pv) r := hv.ik (((nk_put hk3).trans (nk_new hz)).ik)
      refine ⟨kvs, .inr r.w.word, at_new hz dic4, rfl, by rw [sizeLine_eq]; omega, fun v' hv' => ?_, fun hn => ?_⟩
      · rw [B.key] at hv'
        cases hn : nw r.w with
        | none => rw [hn] at hv'; cases hv'
        | some l =>
          rw [hn] at hv'
          obtain rfl : V.ref l = v' := Option.some.inj hv'
          obtain ⟨ys, hly, hys⟩ := B.here _ _ hn
          have llk := B.ne _ _ hn
          have lz : l ≠ z := ne_of_none hly hz'
          have hl5 : (upd (upd H3 lk (.lst (ks ++ [.ref pv]))) z (.lst [])) l = some (.lst ys) := at_ne lz (at_ne llk (s' _ _ hly))
          refine g_tyL (SqL.of hl5) ?_
          walk_at "ss"
          refine g_insert0 hl5 (by
            rw [Paired.length hys, sizeLine_eq]
            unfold newestOf
            rw [List.length_reverse]
            have h1 := List.length_filter_le (fun r' : RuleD => decide (r'.w = r.w)) (rs.take i)
            rw [List.length_take] at h1
            omega) ?_
          have ik5 := ik4.trans (nk_put (o := .lst (.ref pv :: ys)) hl5).ik
          refine ⟨_, _, _, kvs, (fun w => if w = r.w then some l else nw w), rfl, ?_, ?_, ?_, fun w p hp => ?_⟩
          · exact fun p o e n => at_ne (ne_of_none e (hnw _ _ hn).1) (at_ne (ne_of_none e fz) (at_ne (ne_of_none e fl) (s' _ _ (k' _ _ e n))))
          · exact at_ne (Ne.symm (hnw _ _ hn).2) (at_ne zth.symm (at_ne htl (s' _ _ ht)))
          · rw [etk]
            refine B.step (hv4.ik (nk_put hl5).ik) ik5 hk (at_ne llk.symm (at_ne zlk.symm upd_same)) (at_ne ?_ (at_new hz dic4)) (by rw [List.length_take]; omega) (fun w => ?_) upd_same (.inl ⟨hn, hly⟩) fun w p hw hp ys' hy' => ?_
            · intro e
              rw [← e] at hly
              rw [B.dic] at hly
              cases hly
            · by_cases e : w = r.w
              · rw [if_pos e, e, B.key, hn]; rfl
              · rw [if_neg e]
            · have pl : p ≠ l := fun e => hw (B.inj _ _ _ hp (by rw [e]; exact hn))
              exact at_ne pl (at_ne (ne_of_none hy' hz') (at_ne (B.ne _ _ hp) (s' _ _ hy')))
          · replace hp : (if w = r.w then some l else nw w) = some p := hp
            by_cases e : w = r.w
            · rw [if_pos e] at hp
              cases hp
              exact hnw _ _ hn
            · rw [if_neg e] at hp
              exact hnw _ _ hp
      · have hnn : nw r.w = none := by
          rw [B.key] at hn
          cases e : nw r.w with
          | none => rfl
          | some l => rw [e] at hn; cases hn
        have hz5 : (upd (upd (upd H3 lk (.lst (ks ++ [.ref pv]))) z (.lst [])) nd (.dK (putK kvs (.inr r.w.word) (.ref z)))) z = some (.lst []) := at_ne znd upd_same
        refine g_tyL (SqL.of hz5) ?_
        walk_at "ss"
        try refine g_insert0 hz5 (by rw [sizeLine_eq]; decide) ?_
        have ikd := ik_dic (o := .dK (putK kvs (.inr r.w.word) (.ref z))) (at_new (u := .lst []) hz dic4)
        have ik5 := (ik4.trans ikd).trans (nk_put (o := .lst [.ref pv]) hz5).ik
        refine ⟨_, _, _, putK kvs (.inr r.w.word) (.ref z), (fun w => if w = r.w then some z else nw w), rfl, ?_, ?_, ?_, fun w p hp => ?_⟩
        · exact fun p o e n => at_ne (ne_of_none e fz) (at_ne (ne_of_none e fd) (at_ne (ne_of_none e fz) (at_ne (ne_of_none e fl) (s' _ _ (k' _ _ e n)))))
        · exact at_ne zth.symm (at_ne htd (at_ne zth.symm (at_ne htl (s' _ _ ht))))
        · rw [etk]
          refine B.step ((hv4.ik ikd).ik (nk_put hz5).ik) ik5 hk (at_ne zlk.symm (at_ne hdl (at_ne zlk.symm upd_same))) (at_ne znd.symm upd_same) (by
            have := length_putK kvs (.inr r.w.word) (.ref z)
            rw [List.length_take]
            omega) (fun w => ?_) upd_same (.inr ⟨hnn, rfl, zlk, fun w e => ?_⟩) fun w p hw hp ys' hy' => ?_
          · rw [valV_put]
            by_cases e : w = r.w
            · rw [if_pos e, if_pos (by rw [e])]
            · rw [if_neg e, if_neg fun h => e (Wd.word_inj (Sum.inr.inj h))]
          · obtain ⟨ys, h3, -⟩ := B.here _ _ e
            rw [show H' z = none from hz'] at h3
            cases h3
          · have pnd : p ≠ nd := fun e => by
              rw [e, B.dic] at hy'
              cases hy'
            exact at_ne (ne_of_none hy' hz') (at_ne pnd (at_ne (ne_of_none hy' hz') (at_ne (B.ne _ _ hp) (s' _ _ hy'))))
        · replace hp : (if w = r.w then some z else nw w) = some p := hp
          by_cases e : w = r.w
          · rw [if_pos e] at hp
            cases hp
            exact ⟨fz, zth⟩
          · rw [if_neg e] at hp
            exact hnw _ _ hp
    · rintro σ H' ⟨v3, v4, v5, kvs, nw, rfl, k', ht, B, hnw⟩
      walk_at "ss"
      refine ite_df (by rw [hlen]; omega) ?_
      walk_at "ss"
      rw [List.take_of_length_le (by omega)] at B
      refine q H' _ k' ⟨a, dx, lk, nd, kvs, nw, rfl, rfl, B⟩ fun p hp => ?_
      rcases List.mem_cons.mp hp with rfl | hp
      · exact fd
      rcases List.mem_cons.mp hp with rfl | hp
      · exact fl
      · obtain ⟨w, -, hw⟩ := List.mem_filterMap.mp hp
        exact (hnw w p hw).1
  · walk_at "ss"
    rcases hy with ⟨rfl, rfl⟩ | ⟨p, rfl, hp⟩
    · refine ite_ndt rfl ?_
      walk_at "ss"
      exact hN _ _ ⟨_, rfl, by walk_at "sm", upd_same⟩
    · refine ite_ndf (by simp) ?_
      walk_at "ss"
      exact hN _ _ ⟨_, rfl, by walk_at "sm", upd_same⟩
/-! YU: lists of drawn rules. -/
open PySem PySem.Spec PyProof.Rows L2
theorem isCoins_b {d : PyData} (h : isCoins d = true) : ∃ i, d = .int i ∧ 0 ≤ i ∧ i ≤ 1000000000000 := by
  cases d with
  | int i =>
    have h' : (decide (0 ≤ i) && decide (i ≤ 1000000000000)) = true := h
    simp at h'
    exact ⟨i, rfl, h'⟩
  | _ => cases h
theorem isNights_b {d : PyData} (h : isNights d = true) : ∃ i, d = .int i ∧ 1 ≤ i ∧ i ≤ 14 := by
  cases d with
  | int i =>
    have h' : (decide (1 ≤ i) && decide (i ≤ 14)) = true := h
    simp at h'
    exact ⟨i, rfl, h'⟩
  | _ => cases h
theorem isDeal_ex {d : PyData} (h : isDeal d = true) : d = .none ∨ ∃ m f, d = .tuple [.int m, .int f] ∧ 1 ≤ m ∧ m ≤ 14 ∧ 1 ≤ f ∧ f < m := by
  cases d with
  | none => exact .inl rfl
  | tuple ds =>
    refine .inr ?_
    by_cases hl : ds.length = 2
    · match ds, hl with
      | [p, q], _ =>
        have hp : isNights p = true := by
          cases e : isNights p with
          | true => rfl
          | false => rw [isDeal_n e] at h; cases h
        have hq : isW q = true := by
          cases e : isW q with
          | true => rfl
          | false => rw [isDeal_w e] at h; cases h
        obtain ⟨m, rfl, m0, m1⟩ := isNights_b hp
        obtain ⟨f, rfl⟩ := isW_int hq
        have h' : (isNights (.int m) && (decide (1 ≤ f) && decide (f < m))) = true := h
        rw [hp] at h'
        simp at h'
        exact ⟨m, f, rfl, m0, m1, h'⟩
    · rw [isDeal_no hl] at h; cases h
  | _ => cases h
def Rus (H : Hp) (xs : List V) (rs : List RuleD) : Prop := Paired (RuT H) xs rs
theorem Rus.tk {H H' : Hp} {xs : List V} {rs : List RuleD} (k : Tk H H') (h : Rus H xs rs) : Rus H' xs rs := Paired.mapP h fun _ _ q => q.tk k
theorem ru_new {H : Hp} {p : Addr} {o : HO} {xs : List V} {rs : List RuleD} (hp : Fr H p) (h : Rus H xs rs) : Rus (upd H p o) xs rs := h.tk (tk_new hp)
theorem ru_put {H : Hp} {p : Addr} {o : HO} {zs : List V} {xs : List V} {rs : List RuleD} (hp : H p = some (.lst zs)) (h : Rus H xs rs) : Rus (upd H p o) xs rs := h.tk (tk_put hp)
theorem ru_same {H H' : Hp} {xs : List V} {rs : List RuleD} (k : Same H H') (h : Rus H xs rs) : Rus H' xs rs := h.tk (Same.tk k)
theorem ru_kp {H H' : Hp} {t b s : Addr} {xs : List V} {rs : List RuleD} (k : Kp [t, b] H H') (T : Tape H t b s) (h : Rus H xs rs) : Rus H' xs rs := h.tk (tk_kp T k)
theorem ru_app {H : Hp} {xs ys : List V} {rs ss : List RuleD} (h : Rus H xs rs) (g : Rus H ys ss) : Rus H (xs ++ ys) (rs ++ ss) := Paired.app h g
theorem ru_len {H : Hp} {xs : List V} {rs : List RuleD} (h : Rus H xs rs) : xs.length = rs.length := Paired.length h
theorem dp_rules {K : PySem.W.Frag} {H : Hp} : ∀ {xs : List V} {rs : List RuleD}, Rus H xs rs → DpAll K H xs (rs.map RuleD.told)
  | _, _, .nil => .nil
  | _, _, .cons r t => .cons r.td.dp (dp_rules t)
theorem dp_row {K : PySem.W.Frag} {H : Hp} {p : Addr} {xs : List V} {rs : List RuleD} (h : SqL K H p xs) (r : Rus H xs rs) : Dp K H (.ref p) (.list (rs.map RuleD.told)) := .lst h (dp_rules r)
theorem gd_app {rs ss : List RuleD} (h : ∀ r ∈ rs, RuleD.good r) (g : ∀ r ∈ ss, RuleD.good r) : ∀ r ∈ rs ++ ss, RuleD.good r := fun r hr => (List.mem_append.mp hr).elim (h r) (g r)
theorem g_brulesR {K : PySem.W.Frag} {F : List Addr} {rs : List RuleD} {v : V} {H : Hp} {Q : VK} {E : XK} (c : CFR K) (cb : CFB K) (b : BookAt K H F v rs) (l : rs.length ≤ 1000) (q : ∀ p H' ys, Same H H' → Fr H p → H' p = some (.lst ys) → Rus H' ys rs → Q (.ref p) H') : sp_Book_rules K (v :: ([] ++ [])) H Q E := g_brules c cb b l q
/-- a method of what an expression makes -/
def rObj (C : Addr) (m : Str) (x : V) (H1 : Hp) (R : Hp → Prop) : Prop := ∃ a dx fs, x = .ref a ∧ H1 a = some (.ins C dx fs) ∧ fs.lookup m = none ∧ R H1
theorem g_meth {C : Addr} {m : Str} {sp : Sp} {dvs : List V} {E : XK} {ta : TE} {t : TA} {σ : L2.St} {H : Hp} {Q : VK} (q : ta σ H fun x H1 => rObj C m x H1 fun H2 => t σ H2 fun vs H3 => sp (x :: (vs ++ dvs)) H3 Q E) : tMeth C m sp dvs E ta t σ H Q := q
theorem g_robj {K : PySem.W.Frag} {m : Str} {H : Hp} {v : V} {F : List Addr} {rs : List RuleD} {R : Hp → Prop} (b : BookAt K H F v rs) (no : decide (m = "kept") = false ∧ decide (m = "newest") = false) (q : R H) : rObj (He.ga K "Book") m v H R := by
  obtain ⟨a, dx, lk, nd, kvs, nw, rfl, rfl, B⟩ := b
  refine ⟨a, dx, _, rfl, B.obj, ?_, q⟩
  have h1 : (m == ("kept" : Str)) = false := beq_eq_false_iff_ne.mpr (of_decide_eq_false no.1)
  have h2 : (m == ("newest" : Str)) = false := beq_eq_false_iff_ne.mpr (of_decide_eq_false no.2)
  simp only [List.lookup, h1, h2]
theorem g_slTo {K : PySem.W.Frag} {H : Hp} {Q : VK} {p : Addr} {xs : List V} {n : Int} (hn : 0 ≤ n) (h : SqL K H p xs) (q : ∀ a, Fr H a → Q (.ref a) (upd H a (.lst (xs.take n.toNat)))) : rSlL K (.ref p) none (some n) H Q := g_slL h fun a ha => by
  rw [cut_to hn]; exact q a ha
theorem g_slFrom {K : PySem.W.Frag} {H : Hp} {Q : VK} {p : Addr} {xs : List V} {n : Int} (hn : 0 ≤ n) (h : SqL K H p xs) (q : ∀ a, Fr H a → Q (.ref a) (upd H a (.lst (xs.drop n.toNat)))) : rSlL K (.ref p) (some n) none H Q := g_slL h fun a ha => by
  rw [cut_from hn]; exact q a ha
/-- comprehensions of drawn things -/
theorem lc_dr {t b s : Addr} {lo : Int} {n : Nat} {g : TG} {tt : TT} {te : TE} {vs : List Nat} {σ : L2.St} {H1 : Hp} {Qf : Addr → Hp → Prop} {β : Type} (T1 : Tape H1 t b s) (R : Hp → V → β → Prop) (hR : ∀ G G' v b, Tk G G' → R G v b → R G' v b) (P : β → Prop) (hn : n < 100000)
    (hs : ∀ (D : Addr) i H (N : Hp → Prop) acc, Fr H1 D → i < n → Tape H t b s → H D = some (.lst acc) → D ∉ [t, b] → (∀ y z H4, R H4 y z → P z → Tape H4 t b s → Kp [t, b] H H4 → ∃ acc, H4 D = some (.lst acc) ∧ acc.length < sizeLine ∧ N (upd H4 D (.lst (acc ++ [y])))) →
      g (.int (lo + i)) (wipe σ vs) H fun σ2 H2 => wipe σ2 vs = wipe σ vs ∧ tt σ2 H2 fun b H3 =>
        if b = true then te σ2 H3 fun y H4 => ∃ acc, H4 D = some (.lst acc) ∧ acc.length < sizeLine ∧ N (upd H4 D (.lst (acc ++ [y]))) else N H3)
    (hd : ∀ D H' (ys : List V) (zs : List β), Fr H1 D → Tape H' t b s → Kp [t, b] H1 H' → H' D = some (.lst ys) → Paired (R H') ys zs → zs.length = n → (∀ z ∈ zs, P z) → Qf D H') :
    ∀ D, Fr H1 D → ∃ W : Nat → Nat → Hp → Prop, (∃ m, W 0 m (upd H1 D (.lst []))) ∧ ∀ i m H, W i m H →
      ((Itr lo n).stop i H ∧ Qf D H) ∨ ((Itr lo n).go i H ∧ ∃ Nx : Hp → Prop, (∀ H', Nx H' → ∃ m', m' < m ∧ W (i + 1) m' H') ∧ ∀ x H', (Itr lo n).yld i H x H' → g x (wipe σ vs) H' fun σ2 H2 => wipe σ2 vs = wipe σ vs ∧ tt σ2 H2 fun b H3 =>
        if b = true then te σ2 H3 fun y H4 => ∃ acc, H4 D = some (.lst acc) ∧ acc.length < sizeLine ∧ Nx (upd H4 D (.lst (acc ++ [y]))) else Nx H3) := fun D hD => by
  have nD : D ∉ [t, b] := ni_tape hD T1
  refine lc_it walk_range (fun i H => Tape H t b s ∧ Kp [t, b] H1 H ∧ ∃ ys zs, H D = some (.lst ys) ∧ Paired (R H) ys zs ∧ zs.length = i ∧ ∀ z ∈ zs, P z) ⟨tape_new hD T1, kp_own hD (Kp.refl _ _), [], [], upd_same, .nil, rfl, by simp⟩ (fun i H _ h => trivial) (fun i x H H' hi ⟨T, k, ys, zs, ha, hr, hl, hp⟩ y => ?_) fun H ⟨T, k, ys, zs, ha, hr, hl, hp⟩ => hd D H ys zs hD T k ha hr hl hp
  obtain ⟨rfl, rfl⟩ := y
  refine hs D i H' _ _ hD hi T ha nD fun y z H4 hy hz T4 k4 => ⟨ys, k4 _ _ ha nD, by rw [Paired.length hr, sizeLine_eq]; omega, tape_own hD T1 T4, kp_own hD (k.trans k4), ys ++ [y], zs ++ [z], upd_same, ?_, by simp [hl], fun x hx => ?_⟩
  · have tk : Tk H4 (upd H4 D (.lst (ys ++ [y]))) := tk_put (k4 _ _ ha nD)
    exact Paired.app (Paired.mapP hr fun _ _ q => hR _ _ _ _ ((tk_kp T k4).trans tk) q) (.cons (hR _ _ _ _ tk hy) .nil)
  rcases List.mem_append.mp hx with hx | hx
  · exact hp x hx
  · rw [List.mem_singleton.mp hx]; exact hz
/-! YV: the worth that is due. -/
open PySem PySem.Spec PyProof.Rows L2
def dueD (rs : List RuleD) (w : Wd) (day : Int) : PyData := rs.foldl (fun d r => if r.w = w ∧ r.f ≤ day ∧ day ≤ r.l then r.d else d) (usualD w)
/-! YC: lists of data; what a book tells is of the word's kind. -/
open PySem PySem.Spec PyProof.Rows L2
/-- a value's truth (the hand layer's own word is an abbreviation) -/
def tTru (K : PySem.W.Frag) (ta : TE) : TT := fun σ H Q => ta σ H fun x H1 => ∃ k, TruV K x H1 k ∧ Q k H1
def rTru (K : PySem.W.Frag) (x : V) (H : Hp) (Q : Bool → Hp → Prop) : Prop := ∃ k, TruV K x H k ∧ Q k H
/-- x is True, x is False -/
def rIsB : R2 := fun x y H Q => ∃ b c, x = .bl b ∧ y = .bl c ∧ Q (.bl (decide (b = c))) H
/-- the worths of a book, by word -/
def comeB (rs : List RuleD) (w : Wd) (day : Int) : Bool := match tellsD rs w day with | .bool b => b | _ => true
def numI (rs : List RuleD) (w : Wd) (day : Int) : Int := match tellsD rs w day with | .int i => i | _ => 0
def soldB (rs : List RuleD) (day : Int) : Bool := !isNone (tellsD rs .price day)
/-! Y9 (second family): drawn rules, days, stays. -/
open PySem PySem.Spec PyProof.Rows L2
def sp_Lcoins (K : PySem.W.Frag) : Sp := Sp1 fun x H Q E => ∃ (t b s : Addr), x = .ref t ∧ Tape H t b s ∧ ∀ (i : Int) (H' : Hp), Tape H' t b s → Kp [t, b] H H' → 0 ≤ i → i ≤ 1000000000000 → Q (.int i) H'
theorem g_Lcoins {K : PySem.W.Frag} {t b s : Addr} {H : Hp} {Q : VK} {E : XK} (T : Tape H t b s) (q : ∀ (i : Int) (H' : Hp), Tape H' t b s → Kp [t, b] H H' → 0 ≤ i → i ≤ 1000000000000 → Q (.int i) H') : sp_Lcoins K ([.ref t] ++ []) H Q E := ⟨_, rfl, t, b, s, rfl, T, q⟩
def sp_Lworth (K : PySem.W.Frag) : Sp := Sp2 fun x y H Q E => ∃ (t b s : Addr) (w : Wd), x = .ref t ∧ y = .str w.word ∧ Tape H t b s ∧ ∀ (v : V) (d : PyData) (H' : Hp), Tape H' t b s → Kp [t, b] H H' → Td H' v d → fitsD w d = true → Q v H'
theorem g_Lworth {K : PySem.W.Frag} {t b s : Addr} {w : Wd} {H : Hp} {Q : VK} {E : XK} (T : Tape H t b s) (q : ∀ (v : V) (d : PyData) (H' : Hp), Tape H' t b s → Kp [t, b] H H' → Td H' v d → fitsD w d = true → Q v H') : sp_Lworth K ([.ref t, .str w.word] ++ []) H Q E := ⟨_, _, rfl, t, b, s, w, rfl, rfl, T, q⟩
def sp_Lrule (K : PySem.W.Frag) : Sp := Sp2 fun x y H Q E => ∃ (t b s : Addr) (m : Int), x = .ref t ∧ y = .int m ∧ Tape H t b s ∧ 0 ≤ m ∧ m ≤ 1000000 ∧ ∀ (v : V) (r : RuleD) (H' : Hp), Tape H' t b s → Kp [t, b] H H' → RuT H' v r → r.good → Q v H'
theorem g_Lrule {K : PySem.W.Frag} {t b s : Addr} {m : Int} {H : Hp} {Q : VK} {E : XK} (T : Tape H t b s) (h0 : 0 ≤ m) (h1 : m ≤ 1000000) (q : ∀ (v : V) (r : RuleD) (H' : Hp), Tape H' t b s → Kp [t, b] H H' → RuT H' v r → r.good → Q v H') : sp_Lrule K ([.ref t, .int m] ++ []) H Q E := ⟨_, _, rfl, t, b, s, m, rfl, rfl, T, h0, h1, q⟩
def sp_Lday (K : PySem.W.Frag) : Sp := Sp1 fun x H Q E => ∃ (t b s : Addr), x = .ref t ∧ Tape H t b s ∧ ∀ (i : Int) (H' : Hp), Tape H' t b s → Kp [t, b] H H' → 0 ≤ i → i ≤ 999989 → Q (.int i) H'
theorem coins_ok {i : Int} (h0 : 0 ≤ i) (h1 : i ≤ 1000000000000) : isCoins (.int i) = true := by
  show (decide (0 ≤ i) && decide (i ≤ 1000000000000)) = true
  simp [h0, h1]
theorem nights_ok {i : Int} (h0 : 1 ≤ i) (h1 : i ≤ 14) : isNights (.int i) = true := by
  show (decide (1 ≤ i) && decide (i ≤ 14)) = true
  simp [h0, h1]
theorem deal_ok {m f : Int} (h0 : 1 ≤ m) (h1 : m ≤ 14) (h2 : 1 ≤ f) (h3 : f < m) : isDeal (.tuple [.int m, .int f]) = true := by
  show (isNights (.int m) && (decide (1 ≤ f) && decide (f < m))) = true
  rw [nights_ok h0 h1]
  simp [h2, h3]
theorem word9 {v : V} (h : v ∈ [V.str "price", .str "price", .str "price", .str "come", .str "go", .str "least", .str "most", .str "deal", .str "fee"]) : ∃ w : Wd, v = .str w.word := by
  simp only [List.mem_cons, List.not_mem_nil, or_false] at h
  rcases h with rfl | rfl | rfl | rfl | rfl | rfl | rfl | rfl | rfl
  · exact ⟨.price, rfl⟩
  · exact ⟨.price, rfl⟩
  · exact ⟨.price, rfl⟩
  · exact ⟨.come, rfl⟩
  · exact ⟨.go, rfl⟩
  · exact ⟨.least, rfl⟩
  · exact ⟨.most, rfl⟩
  · exact ⟨.deal, rfl⟩
  · exact ⟨.fee, rfl⟩
theorem g_inT {K : PySem.W.Frag} {H : Hp} {Q : VK} {p : Addr} {xs : List V} {x : V} {b : Bool} (h : H p = some (.tup xs)) (fx : flatV x = true) (fs : xs.all flatV = true) (e : inV x xs = b) (q : Q (.bl b) H) : rIn K false x (.ref p) H Q :=
  ⟨p, xs, rfl, .inr (SqT.of h), fx, fs, by rw [e, if_neg (by decide)]; exact q⟩
def t_Lcoins (K : PySem.W.Frag) : TS :=
  (tSeq (tAsg (tCall (sp_Ltake K) [] E0 (tCons (tVar 0) (tCons (tC (.int 10)) tNil))) (gName 1))
  (tSeq (tAsg (tOp rMul (tC (.int 10)) (tCall (sp_Ltake K) [] E0 (tCons (tVar 0) (tCons (tC (.int 10)) tNil)))) (gName 2))
  (tSeq (tAsg (tOp rAdd (tOp rMul (tCall (sp_Ltake K) [] E0 (tCons (tVar 0) (tCons (tOp rPow (tC (.int 10)) (tC (.int 6))) tNil))) (tOp rPow (tC (.int 10)) (tC (.int 6)))) (tCall (sp_Ltake K) [] E0 (tCons (tVar 0) (tCons (tOp rPow (tC (.int 10)) (tC (.int 6))) tNil)))) (gName 3))
  (tRet (tOp (rIxL K) (tLst (tCons (tVar 1) (tCons (tVar 2) (tCons (tOp rAdd (tVar 1) (tOp rMul (tC (.int 10)) (tVar 2))) (tCons (tVar 3) (tCons (tOp rPow (tC (.int 10)) (tC (.int 12))) tNil)))))) (tOp rDivW (tCall (sp_Ltake K) [] E0 (tCons (tVar 0) (tCons (tC (.int 9)) tNil))) (tC (.int 2))))))))
theorem pure_Lcoins {K : PySem.W.Frag} {x : V} {H : Hp} {Q : VK} {E : XK} (h : sp_Lcoins K [x] H Q E) : t_Lcoins K { nx := fun _ H' => Q .non H', rt := Q } [some x, none, none, none] H := by
  obtain ⟨x, e, t, b, s, rfl, T, q⟩ := h
  cases e
  unfold t_Lcoins
  walk_at "ss"
  rename_i a1 H1 a10 a11 T1 k1 a2 H2 a20 a21 T2 k2 a3 H3 a30 a31 T3 k3 a4 H4 a40 a41 T4 k4 p hp a5 H5 a50 a51 T5 k5 v hv
  refine q _ _ T5 (by walk_at "kp") (by omega) (by omega)
def t_Lworth (K : PySem.W.Frag) : TS :=
  (tSeq (tIfS (tTest (tOp (rIn K false) (tVar 1) (tTup (tCons (tC (.str "come")) (tCons (tC (.str "go")) tNil)))))
  (tRet (tOp rEq (tCall (sp_Ltake K) [] E0 (tCons (tVar 0) (tCons (tC (.int 3)) tNil))) (tC (.int 0))))
  tNext)
  (tSeq (tIfS (tTest (tOp (rIn K false) (tVar 1) (tTup (tCons (tC (.str "least")) (tCons (tC (.str "most")) tNil)))))
  (tRet (tOp rAdd (tC (.int 1)) (tCall (sp_Ltake K) [] E0 (tCons (tVar 0) (tCons (tOp (rIxL K) (tLst (tCons (tC (.int 4)) (tCons (tC (.int 14)) tNil))) (tCall (sp_Ltake K) [] E0 (tCons (tVar 0) (tCons (tC (.int 2)) tNil)))) tNil)))))
  tNext)
  (tSeq (tIfS (tTest (tOp rEq (tVar 1) (tC (.str "deal"))))
  (tSeq (tAsg (tOp rAdd (tC (.int 2)) (tCall (sp_Ltake K) [] E0 (tCons (tVar 0) (tCons (tOp (rIxL K) (tLst (tCons (tC (.int 3)) (tCons (tC (.int 13)) tNil))) (tCall (sp_Ltake K) [] E0 (tCons (tVar 0) (tCons (tC (.int 2)) tNil)))) tNil)))) (gName 2))
  (tSeq (tAsg (tOp rAdd (tC (.int 1)) (tCall (sp_Ltake K) [] E0 (tCons (tVar 0) (tCons (tOp rSub (tVar 2) (tC (.int 1))) tNil)))) (gName 3))
  (tRet (tOp (rIxL K) (tLst (tCons (tTup (tCons (tVar 2) (tCons (tVar 3) tNil))) (tCons (tTup (tCons (tVar 2) (tCons (tVar 3) tNil))) (tCons (tC .non) tNil)))) (tCall (sp_Ltake K) [] E0 (tCons (tVar 0) (tCons (tC (.int 3)) tNil)))))))
  tNext)
  (tSeq (tAsg (tCall (sp_Lcoins K) [] E0 (tCons (tVar 0) tNil)) (gName 4))
  (tSeq (tIfS (tAnd (tTest (tOp rEq (tVar 1) (tC (.str "price")))) (tTest (tOp rEq (tCall (sp_Ltake K) [] E0 (tCons (tVar 0) (tCons (tC (.int 5)) tNil))) (tC (.int 0)))))
  (tRet (tC .non))
  tNext)
  (tRet (tVar 4)))))))
theorem pure_Lworth {K : PySem.W.Frag} {x y : V} {H : Hp} {Q : VK} {E : XK} (h : sp_Lworth K [x, y] H Q E) : t_Lworth K { nx := fun _ H' => Q .non H', rt := Q } [some x, some y, none, none, none] H := by
  obtain ⟨x, y, e, t, b, s, w, rfl, rfl, T, q⟩ := h
  cases e
  unfold t_Lworth
  have cg : w = .come ∨ w = .go ∨ w = .least ∨ w = .most ∨ w = .deal ∨ w = .price ∨ w = .fee := by cases w <;> simp
  walk_at "ss"
  rcases cg with rfl | rfl | rfl | rfl | rfl | rfl | rfl
  · refine g_inT upd_same rfl rfl (b := true) (by decide) ?_
    walk_at "ss"
    exact q _ (.bool _) _ (by walk_at "tp") (by walk_at "kp") (.bl _) rfl
  · refine g_inT upd_same rfl rfl (b := true) (by decide) ?_
    walk_at "ss"
    exact q _ (.bool _) _ (by walk_at "tp") (by walk_at "kp") (.bl _) rfl
  · refine g_inT upd_same rfl rfl (b := false) (by decide) ?_
    walk_at "ss"
    refine g_inT upd_same rfl rfl (b := true) (by decide) ?_
    walk_at "ss"
    exact q _ (.int _) _ (by walk_at "tp") (by walk_at "kp") (.int _) (nights_ok (by omega) (by omega))
  · refine g_inT upd_same rfl rfl (b := false) (by decide) ?_
    walk_at "ss"
    refine g_inT upd_same rfl rfl (b := true) (by decide) ?_
    walk_at "ss"
    exact q _ (.int _) _ (by walk_at "tp") (by walk_at "kp") (.int _) (nights_ok (by omega) (by omega))
  · refine g_inT upd_same rfl rfl (b := false) (by decide) ?_
    walk_at "ss"
    refine g_inT upd_same rfl rfl (b := false) (by decide) ?_
    walk_at "ss"
    with_reducible refine g_seq ?_
    walk_at "ss"
    refine ite_dt rfl ?_
    with_reducible refine g_seqA ?_
    walk_at "ss"
    rename_i q0 hq0 q1 hq1 q2 hq2 d1 H1 d10 d11 T1 k1 v1 hv1 d2 H2 d20 d21 T2 k2 d3 H3 d30 d31 T3 k3 p1 hp1 p2 hp2 p3 hp3 d4 H4 d40 d41 T4 k4 v hv
    have a1 : H4 p1 = some (.tup [.int (2 + d2), .int (1 + d3)]) := at_tk k4 (by walk_at "tp") (by walk_at "at")
    have a2 : H4 p2 = some (.tup [.int (2 + d2), .int (1 + d3)]) := at_tk k4 (by walk_at "tp") (by walk_at "at")
    rcases List.mem_cons.mp hv with rfl | hv
    · exact q _ (.tuple [.int (2 + d2), .int (1 + d3)]) _ T4 (by walk_at "kp") (td_tup a1 (.cons (.int _) (.cons (.int _) .nil))) (deal_ok (by omega) (by omega) (by omega) (by omega))
    rcases List.mem_cons.mp hv with rfl | hv
    · exact q _ (.tuple [.int (2 + d2), .int (1 + d3)]) _ T4 (by walk_at "kp") (td_tup a2 (.cons (.int _) (.cons (.int _) .nil))) (deal_ok (by omega) (by omega) (by omega) (by omega))
    rcases List.mem_cons.mp hv with rfl | hv
    · exact q _ .none _ T4 (by walk_at "kp") .non rfl
    · cases hv
  · refine g_inT upd_same rfl rfl (b := false) (by decide) ?_
    walk_at "ss"
    refine g_inT upd_same rfl rfl (b := false) (by decide) ?_
    walk_at "ss"
    with_reducible refine g_seq ?_
    walk_at "ss"
    refine ite_df (by decide) ?_
    walk_at "ss"
    refine ite_dt rfl ?_
    walk_at "ss"
    refine ite_b (fun z => ?_) fun z => ?_
    · walk_at "ss"
      exact q _ .none _ (by walk_at "tp") (by walk_at "kp") .non rfl
    · walk_at "ss"
      rename_i c H1 T1 k1 c0 c1 d H2 d0 d1 T2 k2
      exact q _ (.int _) _ (by walk_at "tp") (by walk_at "kp") (.int _) (by show (isNone (.int c) || isCoins (.int c)) = true; rw [coins_ok c0 c1]; rfl)
  · refine g_inT upd_same rfl rfl (b := false) (by decide) ?_
    walk_at "ss"
    refine g_inT upd_same rfl rfl (b := false) (by decide) ?_
    walk_at "ss"
    with_reducible refine g_seq ?_
    walk_at "ss"
    refine ite_df (by decide) ?_
    walk_at "ss"
    refine ite_df (by decide) ?_
    walk_at "ss"
    rename_i c H1 T1 k1 c0 c1
    exact q _ (.int _) _ (by walk_at "tp") (by walk_at "kp") (.int _) (coins_ok c0 c1)
def t_Lrule (K : PySem.W.Frag) : TS :=
  (tSeq (tAsg (tOp (rIxL K) (tLst (tCons (tC (.str "price")) (tCons (tC (.str "price")) (tCons (tC (.str "price")) (tCons (tC (.str "come")) (tCons (tC (.str "go")) (tCons (tC (.str "least")) (tCons (tC (.str "most")) (tCons (tC (.str "deal")) (tCons (tC (.str "fee")) tNil)))))))))) (tCall (sp_Ltake K) [] E0 (tCons (tVar 0) (tCons (tC (.int 9)) tNil)))) (gName 2))
  (tSeq (tAsg (tOp (rIxL K) (tLst (tCons (tOp rSub (tCall (sp_Ltake K) [] E0 (tCons (tVar 0) (tCons (tC (.int 12)) tNil))) (tC (.int 3))) (tCons (tCall (sp_Ltake K) [] E0 (tCons (tVar 0) (tCons (tC (.int 6)) tNil))) (tCons (tUn rNeg (tVar 1)) (tCons (tC (.int 0)) tNil))))) (tCall (sp_Ltake K) [] E0 (tCons (tVar 0) (tCons (tC (.int 4)) tNil)))) (gName 3))
  (tSeq (tAsg (tCB rMin2 (tCons (tOp rPow (tC (.int 10)) (tC (.int 6))) (tCons (tCB rMax2 (tCons (tC (.int 0)) (tCons (tOp rAdd (tVar 1) (tVar 3)) tNil))) tNil))) (gName 4))
  (tSeq (tAsg (tOp rAdd (tVar 4) (tOp (rIxL K) (tLst (tCons (tC (.int 0)) (tCons (tCall (sp_Ltake K) [] E0 (tCons (tVar 0) (tCons (tC (.int 3)) tNil))) (tCons (tCall (sp_Ltake K) [] E0 (tCons (tVar 0) (tCons (tC (.int 14)) tNil))) (tCons (tC (.int 60)) (tCons (tOp rPow (tC (.int 10)) (tC (.int 6))) tNil)))))) (tCall (sp_Ltake K) [] E0 (tCons (tVar 0) (tCons (tC (.int 5)) tNil))))) (gName 5))
  (tRet (tTup (tCons (tVar 2) (tCons (tVar 4) (tCons (tCB rMin2 (tCons (tOp rPow (tC (.int 10)) (tC (.int 6))) (tCons (tVar 5) tNil))) (tCons (tCall (sp_Lworth K) [] E0 (tCons (tVar 0) (tCons (tVar 2) tNil))) tNil))))))))))
theorem pure_Lrule {K : PySem.W.Frag} {x y : V} {H : Hp} {Q : VK} {E : XK} (h : sp_Lrule K [x, y] H Q E) : t_Lrule K { nx := fun _ H' => Q .non H', rt := Q } [some x, some y, none, none, none, none] H := by
  obtain ⟨x, y, e, t, b, s, m, rfl, rfl, T, h0, h1, q⟩ := h
  cases e
  unfold t_Lrule
  walk_at "ss"
  rename_i p1 hp1 a1 H1 a10 a11 T1 k1 wv hwv a2 H2 a20 a21 T2 k2 a3 H3 a30 a31 T3 k3 p2 hp2 a4 H4 a40 a41 T4 k4 v2 hv2 a5 H5 a50 a51 T5 k5 a6 H6 a60 a61 T6 k6 p3 hp3 a7 H7 a70 a71 T7 k7 v3 hv3
  obtain ⟨w, rfl⟩ := word9 hwv
  refine g_Lworth T7 fun v d H8 T8 k8 hv hf => ?_
  walk_at "ss"
  rename_i p4 hp4
  rw [mni, mxi, mni]
  refine q _ ⟨w, min 1000000 (max 0 (m + v2)), min 1000000 (min 1000000 (max 0 (m + v2)) + v3), d⟩ _ (by walk_at "tp") (by walk_at "kp") ⟨p4, v, rfl, upd_same, td_new hp4 hv⟩ ⟨?_, ?_, ?_, hf⟩
  · show 0 ≤ min 1000000 (max 0 (m + v2)); omega
  · show min 1000000 (max 0 (m + v2)) ≤ min 1000000 (min 1000000 (max 0 (m + v2)) + v3); omega
  · show min 1000000 (min 1000000 (max 0 (m + v2)) + v3) ≤ 1000000; omega
/-! YE: errors: raised, let out of defs, caught; the caught one is kept in the heap. -/
open PySem PySem.Spec PyProof.Rows L2
/-- an error that is kept at a: its class, its dict -/
def exK (a : Addr) (cls : Value) (d : Option Addr) : HO := .ext fun h => ∃ oe, h.get? a = some oe ∧ Zc cls d oe ∧ ∃ vs, oe.data = .fields vs
section
variable {P : Program} {w : World} {H : Hp} {h : Heap} {a : Addr} {cls : Value} {d : Option Addr}
theorem exK_get (hok : HOk P w H h) (e : H a = some (exK a cls d)) : ∃ oe, h.get? a = some oe ∧ Zc cls d oe ∧ ∃ vs, oe.data = .fields vs := by
  have x : ObjOk P w H h a (.ext fun h => ∃ oe, h.get? a = some oe ∧ Zc cls d oe ∧ ∃ vs, oe.data = .fields vs) := hok a _ e
  exact x.1
theorem exK_ok {oe : Obj} {vs : Array Value} (e : h.get? a = some oe) (z : Zc cls d oe) (f : oe.data = .fields vs) : ObjOk P w H h a (exK a cls d) :=
  ⟨⟨oe, e, z, vs, f⟩, ⟨oe, e⟩, fun _ _ ⟨o, q, z, f⟩ k => ⟨o, k o q, z, f⟩⟩
end
section
variable {X : Cx} {pins : List (Addr × Obj)} {σ : L2.St} {H : Hp} {s : Shared} {a : Addr} {oe : Obj} {vs : Array Value} {cls : Value} {d : Option Addr}
/-- a caught error's object is taken into the heap that is told -/
theorem inv_adopt (I : Inv X pins σ H s) (ha : s.heap.get? a = some oe) (hz : Zc cls d oe) (hd : oe.data = .fields vs) (na : H a = none) (old : X.s_0.heap.get? a = none) (nL : a ≠ X.env.locals) (np : ∀ p ∈ X.pn ++ pins, p.1 ≠ a) :
    Inv X pins σ (upd H a (exK a cls d)) s where
  ok := I.ok
  os := I.os
  bare := I.bare
  base :=
    { keep := I.base.keep
      slot := I.base.slot
      free := fun b o e n hx => by
        rw [upd_ne fun z => by rw [z, old] at e; cases e]
        exact I.base.free b o e n hx
      there := I.base.there
      tups := fun b xs e => by
        have z := I.base.tups b xs e
        rw [upd_ne (ne_of_none z na)]
        exact z
      frzs := fun b o u e => by
        have z := I.base.frzs b o u e
        rw [upd_ne (ne_of_none z na)]
        exact z
      tbls := fun b ps e => by
        obtain ⟨m, z⟩ := I.base.tbls b ps e
        exact ⟨m, by rw [upd_ne (ne_of_none z na)]; exact z⟩ }
  loc := I.loc
  cell := I.cell
  free := by
    rw [upd_ne (Ne.symm nL)]
    exact I.free
  freeC := fun x c e => by
    have nc : c ≠ a := fun z => by
      obtain ⟨v, o, h1, h2⟩ := I.cell x c e
      rw [z, ha] at h1
      cases h1
      first
        | (rw [hd] at h2; cases h2)
        | (have h3 := h2.1; rw [hd] at h3; cases h3)
    rw [upd_ne nc]
    exact I.freeC x c e
  pin := fun p hp => by
    obtain ⟨h1, h2, h3⟩ := I.pin p hp
    exact ⟨h1, by rw [upd_ne (np p hp)]; exact h2, h3⟩
  hok := fun b o e => by
    by_cases hb : b = a
    · subst hb
      rw [upd_same] at e
      cases e
      exact exK_ok ha hz hd
    · rw [upd_ne hb] at e
      refine (I.hok b o e).stay (fun _ _ _ z => z) (fun c z => ?_) fun c xs z => ?_
      · rw [upd_ne (ne_of_none z na)]
        exact z
      · rw [upd_ne (ne_of_none z na)]
        exact z
  len := I.len
theorem inv_inSuite (I : Inv X pins σ H s) (a : Addr) : Inv (X.suite a (X.pn ++ pins)) [] σ H s :=
  ⟨I.ok.suite a _, I.os, I.bare, I.base, I.loc, I.cell, I.free, I.freeC, fun p hp => I.pin p ((List.append_nil (X.pn ++ pins)) ▸ hp), I.hok, I.len⟩
theorem inv_ofSuite {a : Addr} (I : Inv (X.suite a (X.pn ++ pins)) [] σ H s) (ok : X.Ok) : Inv X pins σ H s :=
  ⟨ok, I.os, I.bare, I.base, I.loc, I.cell, I.free, I.freeC, fun p hp => I.pin p (by rw [List.append_nil]; exact hp), I.hok, I.len⟩
end
/-- what the clause «except c as n» wishes of an error: n's slot is i; the error stays in the heap -/
def wKp (K : PySem.W.Frag) (c : Value) (i : Nat) (ts : TS) (Wout : WX) (D : Ends) : WX := fun cls d σ H =>
  ∃ b, PySem.W.exmOne K cls c = some b ∧
    (b = true → ∀ a, H a = none → ts { nx := fun τ H' => D.nx (τ.set i none) H', rt := D.rt, bk := fun τ H' => D.bk (τ.set i none) H', ct := fun τ H' => D.ct (τ.set i none) H' } (σ.set i (some (.ref a))) (upd H a (exK a cls d))) ∧
    (b = false → Wout cls d σ H)
/-- try: body / except c as n: suite -/
def tTryK (K : PySem.W.Frag) (c : Value) (i : Nat) (tb : WX → TS) (ts : TS) (Wout : WX) : TS := fun D σ H => tb (wKp K c i ts Wout D) D σ H
/-- try: body / except c: suite -/
def tTryO (K : PySem.W.Frag) (c : Value) (tb : WX → TS) (ts : TS) (Wout : WX) : TS := fun D σ H => tb (wOnly K c (fun _ _ _ => ts) Wout D) D σ H
section
variable {X : Cx} {x n : Str} {c : Value} {i : Nat} {body suite : List Stmt} {b₀ : Stmt} {np pos pos' : Pos} {tb : WX → TS} {ts : TS} {Wout : WX}
theorem ps_tryO (hs : X.stack = X.env :: X.outer) (hf : X.env.frame = some X.env.locals) (hc : Names X x c) (tk : Takes X Wout)
    (inBody : ∀ (W : WX) (pn : List (Addr × Obj)) (xe : Value → Shared → Prop), Takes (X.tr pn xe) W → PassesOwn (model X.prog X.w) X.A X.env xe → PSs (X.tr pn xe) body (tb W))
    (inSuite : ∀ (a : Addr) (pn : List (Addr × Obj)), PSs (X.suite a pn) (b₀ :: suite) ts) : PS X (.Try body [.ExceptHandler (some (.Name x np)) none (b₀ :: suite) pos'] [] [] pos) (tTryO X.K c tb ts Wout) :=
  ps_try_only hs hf hc tk inBody fun a _ _ _ _ _ _ => inSuite a _
theorem ps_tryK (hex : X.ex = []) (hs : X.stack = X.env :: X.outer) (hf : X.env.frame = some X.env.locals) (hN : X.N.Nodup) (hi : X.N[i]? = some n) (hln : X.env.kindOf n = some .local) (hc : Names X x c) (tk : Takes X Wout)
    (inBody : ∀ (W : WX) (pn : List (Addr × Obj)) (xe : Value → Shared → Prop), Takes (X.tr pn xe) W → PassesOwn (model X.prog X.w) X.A X.env xe → PSs (X.tr pn xe) body (tb W))
    (inSuite : ∀ (a : Addr) (pn : List (Addr × Obj)), PSs (X.suite a pn) (b₀ :: suite) ts) :
    PS X (.Try body [.ExceptHandler (some (.Name x np)) (some n) (b₀ :: suite) pos'] [] [] pos) (tTryK X.K c i tb ts Wout) := by
  refine ⟨fun pins s σ H D I holds => ?_⟩
  have okX := I.ok
  have frames : X.A.frames = some (X.env :: X.outer) := by rw [okX.frames, hs]
  refine wpAny_Try_except ?_
  have BB := (inBody (wKp X.K c i ts Wout D) (X.pn ++ pins) (fun e s₁ => wpAny (model X.prog X.w) X.A (noteFrame e X.env) (fun _ s₂ => wpAny (model X.prog X.w) X.A (setFlight e none)
    (fun _ s₃ => wpAny (model X.prog X.w) X.A (handleBy e X.env [.ExceptHandler (some (.Name x np)) (some n) (b₀ :: suite) pos']) (SP X pins D) X.xe s₃) X.xe s₂) X.xe s₁) ?takes PassesOwn.looking).run [] s σ H D (I.toTry _) holds
  case takes =>
    rintro u s' ⟨a, B, sI, pins', σ1, H1, cls, d, rfl, J', ground, up, sky, fresh, os, bare, b, yes, hyes, hno⟩
    have J : Inv X pins σ1 H1 sI := J'.ofTry okX
    have sky1 : Sky B (X.env :: X.outer) a (Zc cls d) X.env.locals s'.heap := by
      rw [← hs]
      exact sky
    show wpAny (model X.prog X.w) X.A (noteFrame (.ref a) X.env) _ _ _
    refine Sky.land Zc.steady frames hf sky1 fun hp3 fl3 up3 => ?_
    have J3 : Inv X pins σ1 H1 { s' with heap := hp3 } := J.landed ground fl3.1 (up.trans up3) os bare
    obtain ⟨o3, vs3, at3, z3, d3⟩ := fl3.there
    have noFrame : ∀ {hp : Heap} {o : Obj} {vs : Array Value}, hp.FunFrames B (X.env :: X.outer) → hp.get? a = some o → o.data = .fields vs → a ∉ frs (X.env :: X.outer) := by
      intro hp o vs ff e dd m
      obtain ⟨_, o', e', hnf⟩ := ff.mem m
      obtain rfl : o = o' := Option.some.inj (e.symm.trans e')
      exact hnf _ dd
    have n0 := noFrame fl3.2.2.1 at3 d3
    have nL : a ≠ X.env.locals := fun z => n0 (List.mem_filterMap.mpr ⟨X.env, List.mem_cons_self, by rw [hf, z]⟩)
    have nF : a ∉ X.fs := by
      intro m
      obtain ⟨e, me, q⟩ := List.mem_filterMap.mp m
      exact n0 (List.mem_filterMap.mpr ⟨e, List.mem_cons_of_mem _ me, q⟩)
    -- a is new to the def: neither the ground nor the state ahead has it
    have nI : sI.heap.get? a = none := by
      rcases e : sI.heap.get? a with _ | o
      · rfl
      · have y := ground a o e (by rw [hs]; exact n0)
        rw [fl3.2.1] at y
        cases y
    have S3 := J3.suite at3 d3 fresh nL nF
    have LT : PySem.W.Looks (model X.prog X.w) hp3 (typeOf (.ref a)) cls := fun A Q E s k q => wpAny_typeOf_ref (k _ _ at3) (by rw [z3.1]; exact q)
    have LM := PySem.W.exm_one (M := model X.prog X.w) J3.kIn LT yes
    have test : ∀ {Q : Value → Shared → Prop} {E : Value → Shared → Prop}, Q c { s' with heap := hp3 } → wpAny (model X.prog X.w) (X.A.mark (some (.ref a))) (eval (.Name x np) X.env) Q E { s' with heap := hp3 } := by
      intro Q E q
      obtain ⟨gl, dbg, m | ⟨m, v, nn⟩⟩ := hc
      · exact ld_glob (X := X.suite a ((a, o3) :: (X.pn ++ pins))) S3 gl m q dbg
      · exact ld_blt (X := X.suite a ((a, o3) :: (X.pn ++ pins))) S3 gl m v q nn dbg
    refine wpAny_handleBy_cons (codeAny_handlers_test ?_) (by intro q; cases q)
    refine test (LM.here ?_)
    match b, yes, hyes, hno with
    | true, yes, hyes, _ =>
      refine codeAny_handlers_suite_as ?_
      refine HandSPX.lands_againZ fl3 fun hp4 fl4 up4 => ?_
      have J4 : Inv X pins σ1 H1 { s' with heap := hp4 } := J.landed ground fl4.1 ((up.trans up3).trans up4) os bare
      obtain ⟨o4, vs4, at4, z4, d4⟩ := fl4.there
      have old : X.s_0.heap.get? a = none := by
        rcases e : X.s_0.heap.get? a with _ | o
        · rfl
        · obtain ⟨o', y⟩ := J.base.there a o e (by rw [hex]; exact List.not_mem_nil)
          rw [nI] at y
          cases y
      have K4 : Inv X pins σ1 (upd H1 a (exK a cls d)) { s' with heap := hp4 } := inv_adopt J4 at4 z4 d4 fresh old nL fun p hp z => by
        have y := (J.pin p hp).1
        rw [z, nI] at y
        cases y
      refine store_ok (X := X.suite a (X.pn ++ pins)) (v := .ref a) (inv_inSuite K4 a) hN hi (.inl hln) rfl (fun s5 S5 => ?_) (.inr hln)
      refine wpAny_mono ((inSuite a (X.pn ++ pins)).run [] s5 _ _ _ S5 (hyes rfl a fresh)) (fun f s6 q => ?_) fun _ _ z => False.elim z
      have ending : ∀ {σ6 : L2.St} {H6 : Hp} {Q : Shared → Prop}, Inv (X.suite a (X.pn ++ pins)) [] σ6 H6 s6 → (∀ s7, Inv X pins (σ6.set i none) H6 s7 → Q s7) →
          wpAny (model X.prog X.w) X.A (do bindName X.env n .none; unbindBehindTheSuite X.env n pos') (fun _ s7 => Q s7) X.xe s6 := fun S6 hq => gone_ok (inv_ofSuite S6 okX) hN hi hln hq
      match f, q with
      | .next, ⟨_, _, S6, q6⟩ => exact ending S6 fun s7 J7 => ⟨_, _, J7, q6⟩
      | .brk, ⟨_, _, S6, q6⟩ => exact ending S6 fun s7 J7 => ⟨_, _, J7, q6⟩
      | .cont, ⟨_, _, S6, q6⟩ => exact ending S6 fun s7 J7 => ⟨_, _, J7, q6⟩
      | .ret _, ⟨_, _, _, S6, r6, q6⟩ => exact ending S6 fun s7 J7 => ⟨_, _, _, J7, r6, q6⟩
    | false, yes, _, hno =>
      show wpAny _ X.A (handleBy (.ref a) X.env []) _ _ _
      refine wpAny_handleBy_nil ?_
      obtain ⟨k1, k2, k3, oe, vs, T, oT, tt, he, hz, hd, h1, hr⟩ := id fl3
      unfold PySem.passOn
      refine wpAny_bind (wpAny_field he hd h1 ?_)
      rw [if_neg (show ¬ ((Value.ref T == Value.none) = true) from by simp)]
      have last : wpAny (model X.prog X.w) X.A (setFlight (.ref a) X.env.frame) (fun _ s4 => wpAny (model X.prog X.w) X.A (throw (.ref a) : Sem Flow) (SP X pins D) X.xe s4) X.xe { s' with heap := hp3 } := by
        rw [hf]
        exact HandSPX.setFlight_upZ fl3 fun h4 hh4 up4 => wpAny_throw (tk _ _ ⟨a, B, sI, pins, σ1, H1, cls, d, rfl, J, ground, (up.trans up3).trans up4, .inr (.inr (by rw [hs]; exact hh4)), fresh, os, bare, hno rfl⟩)
      first
        | exact wpAny_bind (wpAny_pure (wpAny_bind last))
        | exact wpAny_bind last
  refine wpAny_mono BB (fun f s1 q => ?_) fun _ _ z => z
  match f, q with
  | .next, ⟨_, _, J, q⟩ => exact wpAny_execs_nil ⟨_, _, J.ofTry okX, q⟩
  | .brk, ⟨_, _, J, q⟩ => exact ⟨_, _, J.ofTry okX, q⟩
  | .cont, ⟨_, _, J, q⟩ => exact ⟨_, _, J.ofTry okX, q⟩
  | .ret _, ⟨_, _, _, J, r, q⟩ => exact ⟨_, _, _, J.ofTry okX, r, q⟩
end

/-! ### what a kept error tells -/
theorem tyB_ok {K : PySem.W.Frag} {C : Addr} (h : tyB K C = true) : PySem.W.findIn K (.ref C) "__class__" = some (some (.builtin "object.__class__")) ∧ PySem.W.specialIn K (.builtin "object.__class__") "__get__" = some (some (.builtin "getset_descriptor.__get__")) ∧
    PySem.W.takesIn K (.builtin "object.__class__") = some true ∧ PySem.W.mroIn K C (.type "object") = some true := by
  obtain ⟨t1, h⟩ := He.ba h
  obtain ⟨t2, h⟩ := He.ba h
  obtain ⟨t3, t4⟩ := He.ba h
  exact ⟨He.eqO_ok t1, He.eqO_ok t2, of_decide_eq_true t3, of_decide_eq_true t4⟩
/-- an error's class -/
structure ErrC (K : PySem.W.Frag) (x : Str) : Prop where
  ga : PySem.W.findIn K (.ref (He.ga K x)) "__getattribute__" = some (some (.builtin "BaseException.__getattribute__"))
  gg : PySem.W.findIn K (.ref (He.ga K x)) "__getattr__" = some none
  be : PySem.W.subIn K (.ref (He.ga K x)) (.type "BaseException") = some true
  hd : PySem.W.hasDictIn K (He.ga K x) = true
  ty : tyB K (He.ga K x) = true
  tt : PySem.W.typeIn K (.ref (He.ga K x)) = some (.type "type")
  kp : PySem.W.keepIn K (.ref (He.ga K x)) = true
  ic : PySem.W.isClsIn K (He.ga K x) = true
theorem errB_ok {K : PySem.W.Frag} {x : Str} (h : errB K x = true) : ErrC K x := by
  obtain ⟨h1, h⟩ := He.ba h
  obtain ⟨h2, h⟩ := He.ba h
  obtain ⟨h3, h⟩ := He.ba h
  obtain ⟨h4, h⟩ := He.ba h
  obtain ⟨h5, h⟩ := He.ba h
  obtain ⟨h6, h⟩ := He.ba h
  obtain ⟨h7, h8⟩ := He.ba h
  exact ⟨of_decide_eq_true h1, of_decide_eq_true h2, of_decide_eq_true h3, h4, h5, of_decide_eq_true h6, h7, h8⟩
section
variable {K : PySem.W.Frag} {L : List Str} {x y : Str}
theorem ErrsOne (h : exErrs L K = true) (m : x ∈ L) : (errB K x && (decide (PySem.W.kitOne K (.ref (He.ga K x)) (.type "ValueError") = some true) && ((("StayError" : Str) :: L).all fun y => (He.Fa.exm x y (subE x y)).ok K && isiB K x y (subE x y)))) = true := List.all_eq_true.mp h x m
theorem Errs.err (h : exErrs L K = true) (m : x ∈ L) : errB K x = true := (He.ba (ErrsOne h m)).1
theorem Errs.val (h : exErrs L K = true) (m : x ∈ L) : PySem.W.kitOne K (.ref (He.ga K x)) (.type "ValueError") = some true := of_decide_eq_true (He.ba (He.ba (ErrsOne h m)).2).1
theorem Errs.two (h : exErrs L K = true) (m : x ∈ L) (n : y ∈ (("StayError" : Str) :: L)) : PySem.W.exmOne K (.ref (He.ga K x)) (.ref (He.ga K y)) = some (subE x y) ∧ PySem.W.kitOne K (.ref (He.ga K x)) (.ref (He.ga K y)) = some (subE x y) := by
  have z := List.all_eq_true.mp (He.ba (He.ba (ErrsOne h m)).2).2 y n
  exact ⟨He.exm_ok (He.ba z).1, of_decide_eq_true (He.ba z).2⟩
end
/-- at a: a kept error of the class x, its fields fs -/
def ExAt (K : PySem.W.Frag) (H : Hp) (a : Addr) (x : Str) (fs : List (Str × V)) : Prop := errB K x = true ∧
  ((fs = [] ∧ H a = some (exK a (.ref (He.ga K x)) none)) ∨ ∃ dd, H a = some (exK a (.ref (He.ga K x)) (some dd)) ∧ H dd = some (.xd fs))
theorem ExAt.same {K : PySem.W.Frag} {H H' : Hp} {a : Addr} {x : Str} {fs : List (Str × V)} (e : ExAt K H a x fs) (s : Same H H') : ExAt K H' a x fs :=
  ⟨e.1, e.2.imp (fun ⟨h1, h2⟩ => ⟨h1, s _ _ h2⟩) fun ⟨dd, h1, h2⟩ => ⟨dd, s _ _ h1, s _ _ h2⟩⟩
theorem ExAt.inst {K : PySem.W.Frag} {P : Program} {w : World} {H : Hp} {h : Heap} {a : Addr} {x : Str} {fs : List (Str × V)} (e : ExAt K H a x fs) (ok : HOk P w H h) : ∃ oe od, PySem.W.InstAt h a oe (He.ga K x) od := by
  obtain ⟨-, ⟨-, e⟩ | ⟨dd, e, e2⟩⟩ := e
  · obtain ⟨oe, at_, hz, vs, hv⟩ := exK_get ok e
    refine ⟨oe, none, at_, hz.1, by unfold PySem.W.notCls; rw [hv] <;> rfl, ?_⟩
    rw [hz.2]
    trivial
  · obtain ⟨oe, at_, hz, vs, hv⟩ := exK_get ok e
    obtain ⟨od, o2⟩ := L2.objOk_get (ok dd _ e2)
    refine ⟨oe, some od, at_, hz.1, by unfold PySem.W.notCls; rw [hv] <;> rfl, ?_⟩
    rw [hz.2]
    exact o2
/-- isinstance(e, c), e an error that is kept -/
def rIsK (K : PySem.W.Frag) : List V → Hp → VK → Prop := fun xs H Q => ∃ (a : Addr) (x : Str) (fs : List (Str × V)) (c : V) (cv : Value) (b : Bool), xs = [.ref a, c] ∧ ExAt K H a x fs ∧ (∀ u, RelV c u → u = cv) ∧
  PySem.W.kitOne K (.ref (He.ga K x)) cv = some b ∧ Q (.bl b) H
theorem call_isK {X : Cx} : CallR X (.builtin "isinstance") (rIsK X.K) := by
  rintro pins s σ H vs us Q I r ⟨a, x, fs, c, cv, b, rfl, at_, hcv, e, q⟩
  match r with
  | .cons (b := u1) r1 (.cons r2 .nil) =>
    obtain rfl : u1 = Value.ref a := r1
    have z := hcv _ r2
    subst z
    obtain ⟨oe, od, J⟩ := at_.inst I.hok
    have E := errB_ok at_.1
    obtain ⟨t1, t2, t3, t4⟩ := tyB_ok E.ty
    exact PySem.W.kia_one (PySem.W.kitx_exc (od := od) E.ic E.ga E.gg E.be t1 t2 t3 t4) I.kIn J e (fun z => nomatch z) fun tk => ⟨.bl b, H, I.kept (t' := tk) fun _ _ z => z, rfl, q⟩
/-- e.f, e an error that is kept -/
def tXat (K : PySem.W.Frag) (te : TE) (f : Str) : TE := fun σ H Q => te σ H fun v H1 => ∃ (a : Addr) (x : Str) (fs : List (Str × V)) (y : V), v = .ref a ∧ ExAt K H1 a x fs ∧ PySem.W.findIn K (.ref (He.ga K x)) f = some none ∧ fs.lookup f = some y ∧ Q y H1
theorem pe_xat {X : Cx} {e : Expr} {te : TE} {f : Str} {pos : Pos} (he : PE X e te) (hb : attributeBase e f X.env (eval e X.env) = eval e X.env := by rfl) : PE X (.Attribute e f pos) (tXat X.K te f) := by
  refine ⟨fun pins s σ H Q I h => ?_⟩
  refine attr_of hb (thn (he.run pins s σ H _ I h) fun u s1 hh => ?_)
  obtain ⟨v, H1, I1, rv, a, x, fs, y, rfl, at_, no, l, q⟩ := hh
  obtain rfl : u = Value.ref a := rv
  have E := errB_ok at_.1
  rcases at_.2 with ⟨rfl, -⟩ | ⟨dd, e1, e2⟩
  · cases l
  obtain ⟨oe, h1, hz, vs, hd⟩ := exK_get I1.hok e1
  have hx : ObjOk X.prog X.w H1 s1.heap dd (.xd fs) := I1.hok dd _ e2
  obtain ⟨mA, hns, hr⟩ := hx
  obtain ⟨od, ho, hl⟩ := lookIn_ns hns
  obtain ⟨u, hu, ru⟩ := RelO.some_of (v := y) (o := mA f) (by rw [← l]; exact hr f)
  have J : PySem.W.InstAt s1.heap a oe (He.ga X.K x) (some od) := ⟨h1, hz.1, by unfold PySem.W.notCls; rw [hd] <;> rfl, by rw [hz.2]; exact ho⟩
  exact HandSPX.exc_get I1.kIn J E.ga E.gg E.be (PySem.W.findObj_own E.hd no rfl (by rw [hl, hu])) (handed_of ru) ⟨y, H1, I1.tok _, ru, q⟩
/-! ### what may let errors out -/
abbrev XW (E : XK) : WX := fun cls d _ H => E cls d H
section
variable {X : Cx} {CX : CXT} {k j : Nat} {f C : Addr} {fd : FuncData} {ps : List Str} {sp : Sp} {dvs : List V} {ds : List Value} {E : L2.St → XK} {W : WX} {x m : Str} {p pos apos : Pos} {e o : Expr} {es : List Expr} {ta : TE} {t : TA} {pins : List (Addr × Obj)} {σ : L2.St} {H : Hp} {s : Shared} {Q : VK} {us : List Value} {vs : List V}
theorem x_runs (F : FnG X.prog X.w X.K X.mg X.base CX k f fd ps sp) (room : RoomG k X.A) (bi : Binds X.K fd ps ds) (dv : Vals dvs ds) (pass : PassesAt CX X σ (E σ)) (I : Inv X pins σ H s) (rv : Vals vs us) (pr : sp (vs ++ dvs) H Q (E σ)) :
    wpAny (model X.prog X.w) X.A (call (.ref f) us) (EP X pins σ Q) X.xe s := by
  have whole := rv.append dv
  have n : (us ++ ds).length = ps.length := whole.length.symm.trans (F.len _ _ _ _ pr)
  refine wpAny_call (codeAny_mono (F.run _ _ _ _ _ _ _ _ _ room I.env0 (bi _ _ I.kIn n) whole pr) ?_)
  intro end_ s' h
  match end_, h with
  | .error _, h => exact pass _ _ _ _ _ I h
  | .ok (.ret _), h => exact I.after h
theorem x_makes (M : Mk X.K C f) (F : FnG X.prog X.w X.K X.mg X.base CX k f fd ps sp) (room : RoomG (k + 1) X.A) (bi : Binds X.K fd ps ds) (dv : Vals dvs ds) (pass : PassesAt CX X σ (E σ)) (I : Inv X pins σ H s) (rv : Vals vs us)
    (pr : ∀ x dx, H x = none → H dx = none → dx ≠ x → sp (.ref x :: (vs ++ dvs)) (upd (upd H dx (.own x)) x (.ins C dx [])) (fun v H2 => v = .non ∧ Q (.ref x) H2) (E σ)) :
    wpAny (model X.prog X.w) X.A (call (.ref C) us) (EP X pins σ Q) X.xe s := by
  have J := Inv.made (C := C) I
  have z := pr _ _ (I.hok.fresh (Nat.le_succ s.heap.objs.size)) (I.hok.fresh (Nat.le_refl s.heap.objs.size)) (Nat.ne_of_lt (Nat.lt_succ_self _))
  have whole : Vals (V.ref (s.heap.objs.size + 1) :: (vs ++ dvs)) (Value.ref (s.heap.objs.size + 1) :: (us ++ ds)) := .cons rfl (rv.append dv)
  have n : ((Value.ref (s.heap.objs.size + 1) :: us) ++ ds).length = ps.length := whole.length.symm.trans (F.len _ _ _ _ z)
  refine wpAny_call (make_map (f := f) I.kIn M.makes M.init (beq_iff_eq.mp M.fn) (codeAny_mono (F.run _ _ _ _ _ _ _ _ _ (room.make C us) (J.env0.make C us []) (bi _ _ J.kIn n) whole z) ?_))
  intro end_ s' h
  match end_, h with
  | .error _, h => exact pass _ _ _ _ _ J h
  | .ok (.ret _), h =>
    obtain ⟨v, H', J', rv', rfl, q'⟩ := J.after h
    exact ⟨rv', V.ref (s.heap.objs.size + 1), H', J', rfl, q'⟩
/-- a call, a class that is made, a method, that may let an error out -/
def tCallX (sp : Sp) (dvs : List V) (W : WX) (t : TA) : TE := fun σ H Q => t σ H fun vs H1 => sp (vs ++ dvs) H1 Q (WE W σ)
def tMakeX (C : Addr) (sp : Sp) (dvs : List V) (W : WX) (t : TA) : TE := fun σ H Q => t σ H fun vs H1 => ∀ x dx, H1 x = none → H1 dx = none → dx ≠ x → sp (.ref x :: (vs ++ dvs)) (upd (upd H1 dx (.own x)) x (.ins C dx [])) (fun v H2 => v = .non ∧ Q (.ref x) H2) (WE W σ)
def tMethX (C : Addr) (m : Str) (sp : Sp) (dvs : List V) (W : WX) (ta : TE) (t : TA) : TE := fun σ H Q => ta σ H fun x H1 => ∃ a dx fs, x = .ref a ∧ H1 a = some (.ins C dx fs) ∧ fs.lookup m = none ∧ t σ H1 fun vs H2 => sp (.ref a :: (vs ++ dvs)) H2 Q (WE W σ)
theorem pe_cx (c : Cal X.prog X.w X.K X.mg X.base (L2.CX X.prog X.w) k x sp dvs) (hr : RoomG j X.A) (hk : k ≤ j) (hg : Gl X x) (tk : Takes X W) (ha : PA X (e :: es) t)
    (hdb : (x == ("__debug__" : Str)) = false := by decide) (he : starEach (e :: es) X.env = (false, eval e X.env) :: starEach es X.env := by rfl) (hpl : (backTo pos (starEach es X.env)).any (·.1) = false := by rfl) :
    PE X (.Call (.Name x p) (e :: es) [] pos) (tCallX sp dvs W t) := by
  obtain ⟨f, fd, ps, ds, F, hm, kp, b, d⟩ := c.ex
  exact ⟨fun pins s σ H Q I h => wpAny_Call_Name_kw (ld_glob I hg hm (PySem.W.callWith_K (h₀ := X.base) I.ok.mod.kin kp (thn (ha.run pos pins s σ H _ I h) fun _ _ ⟨_, _, I1, r, q⟩ => ⟨I1.kIn, x_runs (E := WE W) F (hr.mono hk) b d (passAt tk σ) I1 r q⟩) he hpl) hdb)⟩
theorem pe_kx (c : Mak X.prog X.w X.K X.mg X.base (L2.CX X.prog X.w) k x C sp dvs) (hr : RoomG j X.A) (hk : k + 1 ≤ j) (hg : Gl X x) (tk : Takes X W) (ha : PA X (e :: es) t)
    (hdb : (x == ("__debug__" : Str)) = false := by decide) (he : starEach (e :: es) X.env = (false, eval e X.env) :: starEach es X.env := by rfl) (hpl : (backTo pos (starEach es X.env)).any (·.1) = false := by rfl) :
    PE X (.Call (.Name x p) (e :: es) [] pos) (tMakeX C sp dvs W t) := by
  obtain ⟨f, fd, ps, ds, M, F, hm, b, d⟩ := c.ex
  exact ⟨fun pins s σ H Q I h => wpAny_Call_Name_kw (ld_glob I hg hm (PySem.W.callWith_K (h₀ := X.base) I.ok.mod.kin M.kp (thn (ha.run pos pins s σ H _ I h) fun _ _ ⟨_, _, I1, r, q⟩ => ⟨I1.kIn, x_makes (E := WE W) M F (hr.mono hk) b d (passAt tk σ) I1 r q⟩) he hpl) hdb)⟩
theorem pe_mx {pl : Sem Bool} (c : Met X.prog X.w X.K X.mg X.base (L2.CX X.prog X.w) k C m sp dvs) (hr : RoomG j X.A) (hk : k ≤ j) (tk : Takes X W) (he : PE X o ta) (ha : PA X (e :: es) t)
    (hst : starEach (e :: es) X.env = (false, eval e X.env) :: starEach es X.env := by rfl) (hpl : (backTo pos (starEach es X.env)).any (·.1) = false := by rfl)
    (ht : eval (.Call (.Attribute o m apos) (e :: es) [] pos) X.env = (do
      let w ← eval o X.env
      standAt apos.atName
      let (g, first) ← holding [w] (getMethod w m pl)
      callWith pos g first (backTo pos (starEach (e :: es) X.env)) (backToKw pos (keywordEach [] X.env))) := by rfl) :
    PE X (.Call (.Attribute o m apos) (e :: es) [] pos) (tMethX C m sp dvs W ta t) := by
  obtain ⟨f, fd, ps, ds, cl, me, F, b, d⟩ := c.ex
  refine ⟨fun pins s σ H Q I h => PySem.W.methodCall_KW (pl := pl) (thn (he.run pins s σ H _ I h) ?_) ht⟩
  rintro u s1 ⟨_, H1, I1, rx, a, dx, fs, rfl, at_, no, q⟩
  obtain rfl : u = Value.ref a := rx
  exact getmeth_ok I1 at_ cl me no (PySem.W.callWith_K (first := [.ref a]) (h₀ := X.base) I.ok.mod.kin me.kp (thn (ha.run pos pins s1 σ H1 _ I1 q) fun us _ ⟨vs, _, I2, r, q2⟩ => ⟨I2.kIn, x_runs (E := WE W) (us := .ref a :: us) (vs := .ref a :: vs) F (hr.mono hk) b d (passAt tk σ) I2 (.cons rfl r) q2⟩) hst hpl)
theorem pe_mx0 {pl : Sem Bool} (c : Met X.prog X.w X.K X.mg X.base (L2.CX X.prog X.w) k C m sp dvs) (hr : RoomG j X.A) (hk : k ≤ j) (tk : Takes X W) (he : PE X o ta)
    (ht : eval (.Call (.Attribute o m apos) [] [] pos) X.env = (do
      let w ← eval o X.env
      standAt apos.atName
      let (g, first) ← holding [w] (getMethod w m pl)
      callWith pos g first (backTo pos (starEach [] X.env)) (backToKw pos (keywordEach [] X.env))) := by rfl) :
    PE X (.Call (.Attribute o m apos) [] [] pos) (tMethX C m sp dvs W ta tNil) := by
  obtain ⟨f, fd, ps, ds, cl, me, F, b, d⟩ := c.ex
  refine ⟨fun pins s σ H Q I h => PySem.W.methodCall_KW (pl := pl) (thn (he.run pins s σ H _ I h) ?_) ht⟩
  rintro u s1 ⟨_, H1, I1, rx, a, dx, fs, rfl, at_, no, q⟩
  obtain rfl : u = Value.ref a := rx
  exact getmeth_ok I1 at_ cl me no (PySem.W.callWith_K0 (first := [.ref a]) I1.kIn me.kp (x_runs (E := WE W) (us := [.ref a]) (vs := [.ref a]) F (hr.mono hk) b d (passAt tk σ) I1 (.cons rfl .nil) q))
/-- raise x('..'), x without own __init__ -/
def tRaiseB (K : PySem.W.Frag) (x : Str) (W : WX) : TS := fun _ σ H => exBare x K = true ∧ W (.ref (He.ga K x)) none σ H
theorem ps_raiseB {z : Str} {i : Nat} {p2 pos' : Pos} (hc : X.calm = true) (tk : Takes X W) (gC : X.mg x = some (.ref (He.ga X.K x))) (hg : Gl X x) (hdb : (x == ("__debug__" : Str)) = false := by decide) :
    PS X (.Raise (some (.Call (.Name x p) [.Constant (.str z) i p2] [] pos)) none pos') (tRaiseB X.K x W) := ⟨fun pins s σ H D I h => by
  have E := errB_ok (He.ba h.1).2
  exact (ps_raise hc tk (pmk_own F.excBase_ValueError (He.ba h.1).1 gC E.kp (raises_own E.be E.tt) hg hdb)).run pins s σ H D I h.2⟩
end

/-! ### errors with an own __init__ -/
theorem oexB_ok {K : PySem.W.Frag} {C : Addr} (h : oexB K C = true) : ∃ nm q N bs bm sn sub ab col dd k0 k1 k2 k3 k5, K.lookup C = some (excClassObj nm q C N bs bm true sn sub ab col dd k0 k1 k2 k3 k5 "ValueError.__new__") ∧ PySem.HandSPX.refsVE bm = true := by
  unfold oexB at h
  split at h
  · rename_i dd cd sl ho
    split at h
    · rename_i C' bm k0 k1 k2 k3 n k5 hm hs
      simp only [Bool.and_eq_true, beq_iff_eq, Bool.not_eq_true'] at h
      obtain ⟨rfl, rfl, h3, h4, h5⟩ := h
      obtain ⟨nm, bs, mro, ns, qn, hd, sn, sub, ab, col, del⟩ := cd
      dsimp only at hm h3 h4
      subst hm h3 h4
      obtain rfl : sl = #[k0, k1, k2, k3, some (.builtin "ValueError.__new__"), k5] := by
        obtain ⟨l⟩ := sl
        simp only at hs
        rw [hs]
      exact ⟨nm, qn, ns, bs, bm, sn, sub, ab, col, dd, k0, k1, k2, k3, k5, ho, h5⟩
    · cases h
  · cases h
theorem exInit_ok {x f : Str} {K : PySem.W.Frag} (h : exInit x f K = true) : OexC K (He.ga K x) ∧ PySem.W.findIn K (.ref (He.ga K x)) f = some none ∧ errB K x = true := by
  replace h := (He.ba h).2
  obtain ⟨h1, h⟩ := He.ba h
  obtain ⟨h2, h⟩ := He.ba h
  obtain ⟨h3, h4⟩ := He.ba h
  have E := errB_ok h4
  exact ⟨⟨oexB_ok h1, of_decide_eq_true h2, E.be, E.tt, E.kp⟩, of_decide_eq_true h3, h4⟩
/-- StayError.__init__(self, ..) -/
def tStI (K : PySem.W.Frag) (ta : TA) : TE := fun σ H Q => exStay K = true ∧ ta σ H fun vs H1 => ∃ (a C : Addr) (ws : List V), vs = .ref a :: ws ∧ ws.length ≤ 1000 ∧ OexC K C ∧ H1 a = some (exo a C none) ∧ Q .non H1
section
variable {X : Cx} {W : WX} {p p1 p2 pos : Pos} {e : Expr} {es : List Expr} {ta : TA}
theorem pe_stinit {pl : Sem Bool} (hg : Gl X "StayError") (hm : X.mg "StayError" = some (.ref (He.ga X.K "StayError"))) (ha : PA X (e :: es) ta)
    (hc : eval (.Call (.Attribute (.Name "StayError" p1) "__init__" p2) (e :: es) [] pos) X.env = (do
      let w ← eval (.Name "StayError" p1) X.env
      standAt p2.atName
      let (g, first) ← holding [w] (getMethod w "__init__" pl)
      callWith pos g first (backTo pos (starEach (e :: es) X.env)) (backToKw pos (keywordEach [] X.env))) := by rfl)
    (he : starEach (e :: es) X.env = (false, eval e X.env) :: starEach es X.env := by rfl) (hpl : (backTo pos (starEach es X.env)).any (·.1) = false := by rfl) :
    PE X (.Call (.Attribute (.Name "StayError" p1) "__init__" p2) (e :: es) [] pos) (tStI X.K ta) := by
  refine ⟨fun pins s σ H Q I h => ?_⟩
  obtain ⟨cx, h⟩ := h
  obtain ⟨c1, c2⟩ := He.ba cx
  obtain ⟨c2, c3⟩ := He.ba c2
  have fc : PySem.W.findCls X.K (.ref (He.ga X.K "StayError")) (.type "type") "__init__" = some (.val (.builtin "ValueError.__init__")) := by
    revert c3
    cases e : PySem.W.findCls X.K (.ref (He.ga X.K "StayError")) (.type "type") "__init__" with
    | none => intro c; cases c
    | some r =>
      intro c
      split at c
      · rename_i n h
        cases h
        rw [of_decide_eq_true c]
      · cases c
  refine PySem.W.methodCall_KW (ld_glob I hg hm ?_ (by decide)) hc
  refine PySem.W.method_cls I.kIn (of_decide_eq_true c2) (PySem.W.cls_value I.kIn c1 fc rfl ?_)
  show wpAny _ _ (callWith pos (Value.builtin "ValueError.__init__") [] (backTo pos (starEach (e :: es) X.env)) []) _ _ _
  refine PyProof.Rows.callWith_method1 (thn (ha.run pos pins _ σ H _ (I.tok _) h) fun us s1 ⟨vs, H1, I1, r1, a, C, ws, ev, hl, T, ea, q⟩ => ?_) he hpl
  subst ev
  match r1 with
  | .cons (b := u0) ra rw' =>
    obtain rfl : u0 = Value.ref a := ra
    exact oinit_ok T I1 ea (by
      rw [← Paired.length rw', sizeLine_eq]
      omega) fun s' J => ⟨.non, H1, J, rfl, q⟩
end
/-- what the __init__ of an error keeps: the field f -/
def sp_xinit (K : PySem.W.Frag) (x f : Str) : Sp := Sp2 fun v y H Q E => exInit x f K = true ∧ ∃ a, v = .ref a ∧ H a = some (exo a (He.ga K x) none) ∧ ∀ d, H d = none → d ≠ a → Q .non (upd (upd H d (exd d [(f, y)])) a (exo a (He.ga K x) (some d)))
def t_xinit (K : PySem.W.Frag) (f z : Str) : TS := tSeq (tDrop (tStI K (tCons (tVar 0) (tCons (tC (.str z)) tNil)))) (tOst K f (tVar 0) (tVar 1))
theorem pure_xinit {K : PySem.W.Frag} {x f z : Str} {v y : V} {H : Hp} {Q : VK} {E : XK} (h : sp_xinit K x f [v, y] H Q E) : t_xinit K f z { nx := fun _ H' => Q .non H', rt := Q } [some v, some y] H := by
  obtain ⟨v, y, e, c, a, rfl, ha, q⟩ := h
  cases e
  obtain ⟨c1, c2, c3⟩ := exInit_ok c
  exact ⟨(He.ba c).1, _, rfl, a, _, _, rfl, (show 1 ≤ 1000 by decide), c1, ha, _, rfl, _, rfl, a, _, rfl, c1, c2, .inl ⟨ha, fun d h1 h2 => q d h1 h2⟩⟩
/-- the __init__ of an error's class -/
structure XIn (P : Program) (w : World) (K : PySem.W.Frag) (mg : Str → Option Value) (base : Heap) (k : Nat) (x f : Str) : Prop where
  ex : ∃ (fI : Addr) (fd : FuncData) (ps : List Str), FnOk P w K mg base CX0 k fI fd ps (sp_xinit K x f) ∧ mg x = some (.ref (He.ga K x)) ∧ Binds K fd ps [] ∧ PySem.W.findIn K (.ref (He.ga K x)) "__init__" = some (some (.ref fI)) ∧ PySem.W.typeIn K (.ref fI) = some (.type "function")
/-- raise x(e), x with its own __init__ -/
def rRaiseI (K : PySem.W.Frag) (x f : Str) (W : WX) (σ : L2.St) (y : V) (H1 : Hp) : Prop := [y].length ≤ 1000 ∧ ∀ a, H1 a = none → sp_xinit K x f (.ref a :: ([y] ++ [])) (upd H1 a (exo a (He.ga K x) none))
  (fun v H2 => v = .non ∧ ∃ (d : Addr) (fs : List (Str × V)), H2 a = some (exo a (He.ga K x) (some d)) ∧ H2 d = some (exd d fs) ∧ H1 d = none ∧ W (.ref (He.ga K x)) (some d) σ (upd (L2.del H2 a) d (.xd fs))) (fun _ _ _ => False)
def tRaiseI (K : PySem.W.Frag) (x f : Str) (W : WX) (te : TE) : TS := fun _ σ H => exInit x f K = true ∧ te σ H fun y H1 => rRaiseI K x f W σ y H1
theorem del_put {H : Hp} {a d : Addr} {o1 o2 o3 o4 : HO} (ha : H a = none) (hd : d ≠ a) : upd (L2.del (upd (upd (upd H a o1) d o2) a o3) a) d o4 = upd H d o4 := by
  funext b
  by_cases h1 : b = d
  · rw [h1, upd_same, upd_same]
  · rw [upd_ne h1, upd_ne h1]
    by_cases h2 : b = a
    · rw [h2, L2.del_same, ha]
    · rw [L2.del_ne h2, upd_ne h2, upd_ne h1, upd_ne h2]
section
variable {X : Cx} {W : WX} {k j : Nat} {x f : Str} {p pos pos' : Pos} {e : Expr} {te : TE}
theorem ps_raiseI (c : XIn X.prog X.w X.K X.mg X.base k x f) (hr : RoomG j X.A) (hk : k + 1 ≤ j) (hc : X.calm = true) (tk : Takes X W) (hg : Gl X x) (he : PE X e te) (hdb : (x == ("__debug__" : Str)) = false := by decide)
    (hst : starEach (e :: []) X.env = (false, eval e X.env) :: starEach [] X.env := by rfl) (hpl : (backTo pos (starEach [] X.env)).any (·.1) = false := by rfl) :
    PS X (.Raise (some (.Call (.Name x p) [e] [] pos)) none pos') (tRaiseI X.K x f W te) := ⟨fun pins s σ H D I h => by
  obtain ⟨fI, fd, ps, F, hm, bi, iC, tI⟩ := c.ex
  obtain ⟨xx, h⟩ := h
  obtain ⟨c1, c2, c3⟩ := exInit_ok xx
  have M := pmk_oex (pos := pos) (p := p) (dvs := []) (ds := []) c1 iC tI F (hr.mono hk).rm bi .nil pass0 hg hm (pa_cons he pa_nil (hs := hst)) hdb hst hpl
  refine (ps_raise (pos := pos') hc tk M).run pins s σ H D I ?_
  exact h⟩
end
/-- the error is made and goes out -/
theorem g_raiseI {K : PySem.W.Frag} {x f : Str} {W : WX} {σ : L2.St} {y : V} {H : Hp} (c : exInit x f K = true) (q : ∀ d, H d = none → W (.ref (He.ga K x)) (some d) σ (upd H d (.xd [(f, y)]))) : rRaiseI K x f W σ y H := by
  refine ⟨show 1 ≤ 1000 by decide, fun a ha => ⟨_, _, rfl, c, a, rfl, upd_same, fun d h1 h2 => ⟨rfl, d, [(f, y)], upd_same, ?_, ?_, ?_⟩⟩⟩
  · rw [upd_ne h2]
    exact upd_same
  · rw [upd_ne h2] at h1
    exact h1
  · rw [del_put ha h2]
    rw [upd_ne h2] at h1
    exact q d h1
/-! YBx: books of things that may be no rules, or too many. -/
open PySem PySem.Spec PyProof.Rows L2
mutual
theorem At.add {H : Hp} {L : List Addr} {a : Addr} (n : ∀ xs, H a ≠ some (.lst xs) ∧ H a ≠ some (.tup xs)) : ∀ {v : V} {d : PyData}, At H L v d → At H (a :: L) v d
  | _, _, .non => .non
  | _, _, .bl b => .bl b
  | _, _, .int i => .int i
  | _, _, .str z => .str z
  | _, _, .lst m h r => .lst (fun z => (List.mem_cons.mp z).elim (fun e => (n _).1 (by rw [← e]; exact h)) m) h (Ats.add n r)
  | _, _, .tup m h r => .tup (fun z => (List.mem_cons.mp z).elim (fun e => (n _).2 (by rw [← e]; exact h)) m) h (Ats.add n r)
theorem Ats.add {H : Hp} {L : List Addr} {a : Addr} (n : ∀ xs, H a ≠ some (.lst xs) ∧ H a ≠ some (.tup xs)) : ∀ {vs : List V} {ds : List PyData}, Ats H L vs ds → Ats H (a :: L) vs ds
  | _, _, .nil => .nil
  | _, _, .cons h r => .cons (At.add n h) (Ats.add n r)
end
/-- all are rules -/
def AllR (ds : List PyData) (rs : List RuleD) : Prop := ds.map asRule = rs.map some
theorem AllR.len {ds : List PyData} {rs : List RuleD} (h : AllR ds rs) : ds.length = rs.length := by
  have := congrArg List.length h
  simpa using this
theorem AllR.snoc {ds : List PyData} {rs : List RuleD} {i : Nat} {d : PyData} {r : RuleD} (h : AllR (ds.take i) rs) (e : ds[i]? = some d) (f : asRule d = some r) : AllR (ds.take (i + 1)) (rs ++ [r]) := by
  unfold AllR at h ⊢
  rw [List.take_add_one, e, List.map_append, List.map_append, h]
  simp [f]
def spx_Book_init (K : PySem.W.Frag) : Sp := Sp2 fun v y H Q E => CFR K ∧ CFB K ∧ exInit "NoRule" "number" K = true ∧ exBare "TooMany" K = true ∧ ∃ (a dx : Addr) (xs : List V) (ds : List PyData), v = .ref a ∧ H a = some (.ins (He.ga K "Book") dx []) ∧
  ((y = .non ∧ xs = []) ∨ ∃ p, y = .ref p ∧ SqL K H p xs) ∧ Paired (At H [a]) xs ds ∧ ds.length ≤ 1000 ∧
  (∀ i d dd H', ds[i]? = some d → asRule d = none → (∃ rs, AllR (ds.take i) rs) → Kp [a] H H' → H' dd = some (.xd [("number", .int (i : Nat))]) → E (.ref (He.ga K "NoRule")) (some dd) H') ∧
  (∀ rs H', AllR ds rs → 24 < rs.length → Kp [a] H H' → E (.ref (He.ga K "TooMany")) none H') ∧
  ∀ rs H' F, AllR ds rs → rs.length ≤ 24 → Kp [a] H H' → BookAt K H' F v rs → (∀ p ∈ F, Fr H p) → Q .non H'
def x_Book_init (K : PySem.W.Frag) (E : XK) : TS :=
  (tSeq (tAsg (tLst tNil) (gName 2))
  (tSeq (tIfS (tTest (tOp rNotN (tVar 1) (tC .non)))
  (tAsg (tCB (rListOf K) (tCons (tVar 1) tNil)) (gName 2))
  tNext)
  (tSeq (sFld K (tVar 0) (tLst tNil) "kept")
  (tSeq (sFld K (tVar 0) tDNewK "newest")
  (tSeq (tFor (iEnum K (tCons (tVar 2) tNil)) (gTup K 2 (gCons (gName 3) (gCons (gName 4) gNil)))
  (tSeq (tAsg (tCall (sp_rule_of K) [] E0 (tCons (tVar 4) tNil)) (gName 5))
  (tSeq (tIfS (tTest (tOp rIsN (tVar 5) (tC .non)))
  (tRaiseI K "NoRule" "number" (XW E) (tVar 3))
  tNext)
  (tSeq (tDrop (tBM K "list" rAppend (tFld K (tVar 0) "kept") (tCons (tVar 5) tNil)))
  (tDrop (tBM K "list" rInsert (tDSetd (tFld K (tVar 0) "newest") (tRule K "word" (sp_word K) (tVar 5) tNil) (tLst tNil)) (tCons (tC (.int 0)) (tCons (tVar 5) tNil))))))))
  (tIfS (tTest (tOp rGt (tCB (rLen K) (tCons (tVar 2) tNil)) (tC (.int 24))))
  (tRaiseB K "TooMany" (XW E))
  tNext))))))
theorem purex_Book_init {K : PySem.W.Frag} {v y : V} {H : Hp} {Q : VK} {E : XK} (h : spx_Book_init K [v, y] H Q E) : x_Book_init K E { nx := fun _ H' => Q .non H', rt := Q } [some v, some y, none, none, none, none] H := by
  obtain ⟨v, y, e, c, cb, cn, cm, a, dx, xs, ds, rfl, ho, hy, hxs, hl, q1, q2, q⟩ := h
  cases e
  unfold x_Book_init
  walk_at "ss"
  rename_i th0 hth0
  have hlen := Paired.length hxs
  with_reducible refine jn (P := fun σ H' => ∃ th, σ = [some (.ref a), some y, some (.ref th), none, none, none] ∧ Same H H' ∧ H' th = some (.lst xs)) ?_ fun N hN => ?_
  · clear hth0
    rintro σ H1 ⟨th, rfl, s1, h1⟩
    with_reducible refine g_seq ?_
    with_reducible refine g_sFld ?_
    walk_at "ss"
    rename_i lk hlk
    refine g_bset cb (at_new hlk (s1 _ _ ho)) (by decide) (by decide) ?_
    with_reducible refine g_seq ?_
    with_reducible refine g_sFld ?_
    show ∀ nd, _ = none → _
    intro nd hnd
    walk_at "ss"
    have hla : a ≠ lk := ne_of_none (s1 _ _ ho) hlk
    have hda : a ≠ nd := ne_of_none upd_same hnd
    have hdl : lk ≠ nd := ne_of_none (o := .lst []) (at_ne hla.symm upd_same) hnd
    have htl : th ≠ lk := ne_of_none h1 hlk
    have hta : th ≠ a := fun z => by rw [z, s1 _ _ ho] at h1; cases h1
    have htd : th ≠ nd := ne_of_none (o := .lst xs) (at_ne hta (at_ne htl h1)) hnd
    have fl : Fr H lk := Same.free s1 hlk
    have fd : Fr H nd := Same.free s1 (by
      have z := hnd
      rw [upd_ne hda.symm, upd_ne hdl.symm] at z
      exact z)
    refine g_bset cb (at_ne hda upd_same) (by decide) (show (1 : Nat) < 1000 by decide) ?_
    obtain ⟨G, hG⟩ : ∃ G, G = upd (upd (upd (upd H1 lk (.lst [])) a (.ins (He.ga K "Book") dx (putF "kept" (.ref lk) []))) nd (.dK [])) a (.ins (He.ga K "Book") dx (putF "newest" (.ref nd) (putF "kept" (.ref lk) []))) := ⟨_, rfl⟩
    rw [← hG]
    have hGa : G a = some (.ins (He.ga K "Book") dx [("kept", .ref lk), ("newest", .ref nd)]) := by rw [hG]; exact upd_same
    have hGl : G lk = some (.lst []) := by rw [hG]; exact at_ne hla.symm (at_ne hdl (at_ne hla.symm upd_same))
    have hGd : G nd = some (.dK []) := by rw [hG]; exact at_ne hda.symm upd_same
    have hGt : G th = some (.lst xs) := by rw [hG]; exact at_ne hta (at_ne htd (at_ne hta (at_ne htl h1)))
    have kG : Kp [a] H G := fun p o e n => by
      have np : p ≠ a := fun z => n (by rw [z]; simp)
      rw [hG]
      exact at_ne np (at_ne (ne_of_none e fd) (at_ne np (at_ne (ne_of_none e fl) (s1 _ _ e))))
    have BG : BookIn K G a dx lk nd [] (fun _ => none) [] := ⟨hGa, ⟨[], hGl, .nil⟩, hGd, Nat.le_refl _, (fun _ => rfl), (fun _ _ e => by cases e), (fun _ _ => rfl), (fun _ _ _ e => by cases e), (fun _ _ e => by cases e)⟩
    clear hG hnd hlk h1 s1 hGa hGl hGd
    with_reducible refine g_seqF ?_
    refine g_for ?_
    refine g_iEnum ?_
    walk_at "ss"
    refine ⟨th, xs, rfl, SqL.of hGt, ?_⟩
    refine for_it (walk_enum (K := K) (a := th) (xs := xs)) (fun i σ H' => ∃ v3 v4 v5 kvs nw rs, σ = [some (.ref a), some y, some (.ref th), v3, v4, v5] ∧ AllR (ds.take i) rs ∧ Kp [a] H H' ∧ H' th = some (.lst xs) ∧ BookIn K H' a dx lk nd kvs nw rs ∧ ∀ w l, nw w = some l → Fr H l ∧ l ≠ th)
      ⟨_, _, _, [], _, [], rfl, rfl, kG, hGt, BG, (fun _ _ e => by cases e)⟩ (fun i σ H' _ h => by obtain ⟨_, _, _, _, _, _, _, _, _, h, _⟩ := h; exact SqL.of h) ?_ ?_
    · clear BG kG hGt G H1 th0 q
      rintro i x σ H' H2 hi ⟨v3, v4, v5, kvs, nw, rs, rfl, hal, k', ht, B, hnw⟩ ⟨T, x1, x2, rfl, hT, rfl, h1, h2⟩
      replace hT : Fr H' T := hT
      replace h2 : xs[i]? = some x2 := h2
      obtain rfl : x1 = .int (i : Nat) := (Option.some.inj h1).symm
      obtain ⟨d, hr, hx⟩ := Paired.getL hxs h2
      have hx2 : At (upd H' T (.tup [.int (i : Nat), x2])) [] x2 d := (at_new' hT (hx.kp k')).nil
      have hids : i < ds.length := (List.getElem?_eq_some_iff.mp hr).1
      have hrl : rs.length = i := by
        have := hal.len
        rw [List.length_take] at this
        omega
      walk_at "ss"
      refine g_rule_of c hx2 (fun e H3 s3 => ?_) fun r e v H3 s3 hv => ?_
      · walk_at "ss"
        with_reducible refine g_seq ?_
        walk_at "ss"
        refine ite_dt (by simp) ?_
        refine ⟨cn, _, rfl, g_raiseI cn fun dd hdd => q1 i d dd _ hr e ⟨_, hal⟩ ?_ upd_same⟩
        exact fun p o e n => same_new hdd _ _ (s3 _ _ (same_new hT _ _ (k' p o e n)))
      walk_at "ss"
      obtain ⟨pv, dv, wv, rfl, hvo, hvd⟩ := id hv
      have s' : Same H' H3 := (same_new hT).trans s3
      obtain ⟨ks, hk, hks⟩ := B.kept
      have hk3 := s' _ _ hk
      have hkl : ks.length ≤ 1000 := by
        rw [Paired.length hks]
        omega
      have hsm := B.small
      have hal2 := hal.snoc hr e
      have hla3 : a ≠ lk := hla
      have hin : InsAt K H3 (.ref pv) r.w (.int r.f) (.int r.l) wv := ⟨pv, dv, rfl, hvo⟩
      with_reducible refine g_seq ?_
      walk_at "ss"
      refine ite_df (by simp) ?_
      with_reducible refine g_next ?_
      with_reducible refine g_seqD ?_
      with_reducible refine g_drop ?_
      with_reducible refine g_bm ?_
      refine g_bfld cb rfl (s' _ _ B.obj) (by decide) rfl ?_
      walk_at "ss"
      have hin4 : InsAt K (upd H3 lk (.lst (ks ++ [.ref pv]))) (.ref pv) r.w (.int r.f) (.int r.l) wv := ins_put hk3 hin
      have dic4 : (upd H3 lk (.lst (ks ++ [.ref pv]))) nd = some (.dK kvs) := at_ne hdl.symm (s' _ _ B.dic)
      refine g_dSetd ?_
      refine g_bfld cb rfl (at_ne hla (s' _ _ B.obj)) (by decide) rfl ?_
      refine ⟨nd, rfl, .inl ⟨kvs, .inl dic4⟩, ?_⟩
      walk_at "ss"
      rename_i z hz
      have hzk : Fr H3 z := fr_new hz
      have hz' : Fr H' z := Same.free s' hzk
      have fz : Fr H z := by
        refine fr_kp hz' k' fun m => ?_
        rw [List.mem_singleton.mp m] at hz'
        have := B.obj
        rw [show H' a = none from hz'] at this
        cases this
      have zlk : z ≠ lk := (ne_of_none hk3 hzk).symm
      have zth : z ≠ th := (ne_of_none ht hz').symm
      have znd : z ≠ nd := (ne_of_none (s' _ _ B.dic) hzk).symm
      have za : z ≠ a := (ne_of_none (s' _ _ B.obj) hzk).symm
      have ik4 : Ik H' (upd (upd H3 lk (.lst (ks ++ [.ref pv]))) z (.lst [])) := (Same.ik s').trans (((nk_put hk3).trans (nk_new hz)).ik)
      have hv4 : RuleAt K (upd (upd H3 lk (.lst (ks ++ [.ref pv]))) z (.lst [])) (.ref pv) r := hv.ik (((nk_put hk3).trans (nk_new hz)).ik)
      refine ⟨kvs, .inr r.w.word, at_new hz dic4, rfl, by rw [sizeLine_eq]; omega, fun v' hv' => ?_, fun hn => ?_⟩
      · rw [B.key] at hv'
        cases hn : nw r.w with
        | none => rw [hn] at hv'; cases hv'
        | some l =>
          rw [hn] at hv'
          obtain rfl : V.ref l = v' := Option.some.inj hv'
          obtain ⟨ys, hly, hys⟩ := B.here _ _ hn
          have llk := B.ne _ _ hn
          have lz : l ≠ z := ne_of_none hly hz'
          have hl5 : (upd (upd H3 lk (.lst (ks ++ [.ref pv]))) z (.lst [])) l = some (.lst ys) := at_ne lz (at_ne llk (s' _ _ hly))
          refine g_tyL (SqL.of hl5) ?_
          walk_at "ss"
          refine g_insert0 hl5 (by
            rw [Paired.length hys, sizeLine_eq]
            unfold newestOf
            rw [List.length_reverse]
            have h1 := List.length_filter_le (fun r' : RuleD => decide (r'.w = r.w)) rs
            omega) ?_
          have ik5 := ik4.trans (nk_put (o := .lst (.ref pv :: ys)) hl5).ik
          refine ⟨_, _, _, kvs, (fun w => if w = r.w then some l else nw w), _, rfl, hal2, ?_, ?_, ?_, fun w p hp => ?_⟩
          · exact fun p o e n => at_ne (ne_of_none e (hnw _ _ hn).1) (at_ne (ne_of_none e fz) (at_ne (ne_of_none e fl) (s' _ _ (k' _ _ e n))))
          · exact at_ne (Ne.symm (hnw _ _ hn).2) (at_ne zth.symm (at_ne htl (s' _ _ ht)))
          · refine B.step (hv4.ik (nk_put hl5).ik) ik5 hk (at_ne llk.symm (at_ne zlk.symm upd_same)) (at_ne ?_ (at_new hz dic4)) (by omega) (fun w => ?_) upd_same (.inl ⟨hn, hly⟩) fun w p hw hp ys' hy' => ?_
            · intro e
              rw [← e] at hly
              rw [B.dic] at hly
              cases hly
            · by_cases e : w = r.w
              · rw [if_pos e, e, B.key, hn]; rfl
              · rw [if_neg e]
            · have pl : p ≠ l := fun e => hw (B.inj _ _ _ hp (by rw [e]; exact hn))
              exact at_ne pl (at_ne (ne_of_none hy' hz') (at_ne (B.ne _ _ hp) (s' _ _ hy')))
          · replace hp : (if w = r.w then some l else nw w) = some p := hp
            by_cases e : w = r.w
            · rw [if_pos e] at hp
              cases hp
              exact hnw _ _ hn
            · rw [if_neg e] at hp
              exact hnw _ _ hp
      · have hnn : nw r.w = none := by
          rw [B.key] at hn
          cases e : nw r.w with
          | none => rfl
          | some l => rw [e] at hn; cases hn
        have hz5 : (upd (upd (upd H3 lk (.lst (ks ++ [.ref pv]))) z (.lst [])) nd (.dK (putK kvs (.inr r.w.word) (.ref z)))) z = some (.lst []) := at_ne znd upd_same
        refine g_tyL (SqL.of hz5) ?_
        walk_at "ss"
        try refine g_insert0 hz5 (by rw [sizeLine_eq]; decide) ?_
        have ikd := ik_dic (o := .dK (putK kvs (.inr r.w.word) (.ref z))) (at_new (u := .lst []) hz dic4)
        have ik5 := (ik4.trans ikd).trans (nk_put (o := .lst [.ref pv]) hz5).ik
        refine ⟨_, _, _, putK kvs (.inr r.w.word) (.ref z), (fun w => if w = r.w then some z else nw w), _, rfl, hal2, ?_, ?_, ?_, fun w p hp => ?_⟩
        · exact fun p o e n => at_ne (ne_of_none e fz) (at_ne (ne_of_none e fd) (at_ne (ne_of_none e fz) (at_ne (ne_of_none e fl) (s' _ _ (k' _ _ e n)))))
        · exact at_ne zth.symm (at_ne htd (at_ne zth.symm (at_ne htl (s' _ _ ht))))
        · refine B.step ((hv4.ik ikd).ik (nk_put hz5).ik) ik5 hk (at_ne zlk.symm (at_ne hdl (at_ne zlk.symm upd_same))) (at_ne znd.symm upd_same) (by
            have := length_putK kvs (.inr r.w.word) (.ref z)
            omega) (fun w => ?_) upd_same (.inr ⟨hnn, rfl, zlk, fun w e => ?_⟩) fun w p hw hp ys' hy' => ?_
          · rw [valV_put]
            by_cases e : w = r.w
            · rw [if_pos e, if_pos (by rw [e])]
            · rw [if_neg e, if_neg fun h => e (Wd.word_inj (Sum.inr.inj h))]
          · obtain ⟨ys, h3, -⟩ := B.here _ _ e
            rw [show H' z = none from hz'] at h3
            cases h3
          · have pnd : p ≠ nd := fun e => by
              rw [e, B.dic] at hy'
              cases hy'
            exact at_ne (ne_of_none hy' hz') (at_ne pnd (at_ne (ne_of_none hy' hz') (at_ne (B.ne _ _ hp) (s' _ _ hy'))))
        · replace hp : (if w = r.w then some z else nw w) = some p := hp
          by_cases e : w = r.w
          · rw [if_pos e] at hp
            cases hp
            exact ⟨fz, zth⟩
          · rw [if_neg e] at hp
            exact hnw _ _ hp
    · rintro σ H' ⟨v3, v4, v5, kvs, nw, rs, rfl, hal, k', ht, B, hnw⟩
      rw [List.take_of_length_le (by omega)] at hal
      have hrl := hal.len
      walk_at "ss"
      by_cases hm : 24 < rs.length
      · refine ite_dt (by rw [hlen]; omega) ?_
        exact ⟨cm, q2 rs H' hal hm k'⟩
      refine ite_df (by rw [hlen]; omega) ?_
      walk_at "ss"
      refine q rs H' _ hal (by omega) k' ⟨a, dx, lk, nd, kvs, nw, rfl, rfl, B⟩ fun p hp => ?_
      rcases List.mem_cons.mp hp with rfl | hp
      · exact fd
      rcases List.mem_cons.mp hp with rfl | hp
      · exact fl
      · obtain ⟨w, -, hw⟩ := List.mem_filterMap.mp hp
        exact (hnw w p hw).1
  · walk_at "ss"
    rcases hy with ⟨rfl, rfl⟩ | ⟨p, rfl, hp⟩
    · refine ite_ndt rfl ?_
      walk_at "ss"
      exact hN _ _ ⟨_, rfl, by walk_at "sm", upd_same⟩
    · refine ite_ndf (by simp) ?_
      walk_at "ss"
      exact hN _ _ ⟨_, rfl, by walk_at "sm", upd_same⟩
/-! YLd: books laid over books. -/
open PySem PySem.Spec PyProof.Rows L2
def sp_laid (K : PySem.W.Frag) : Sp := Sp2 fun v u H Q E => CFR K ∧ CFB K ∧ ∃ F1 r1 F2 r2, BookAt K H F1 v r1 ∧ BookAt K H F2 u r2 ∧ r1.length + r2.length ≤ 24 ∧ (∀ r ∈ r1, RuleD.good r) ∧ (∀ r ∈ r2, RuleD.good r) ∧
  ∀ x F H', Same H H' → BookAt K H' F x (r1 ++ r2) → (∀ p ∈ F, Fr H p) → Q x H'
def t_laid (K : PySem.W.Frag) : TS :=
  (tRet (tMake (He.ga K "Book") (sp_Book_init K) [] E0 (tCons (tOp rCat (tMeth (He.ga K "Book") "rules" (sp_Book_rules K) [] E0 (tVar 0) tNil) (tMeth (He.ga K "Book") "rules" (sp_Book_rules K) [] E0 (tVar 1) tNil)) tNil)))
/-! YLx: books made, laid, of which some are refused: what the callers see. -/
open PySem PySem.Spec PyProof.Rows L2
theorem g_isK {K : PySem.W.Frag} {H : Hp} {Q : VK} {a : Addr} {x y : Str} {fs : List (Str × V)} {L : List Str} (he : exErrs L K = true) (h : ExAt K H a x fs) (mx : x ∈ L) (my : y ∈ (("StayError" : Str) :: L)) (q : Q (.bl (subE x y)) H) : rIsK K [.ref a, .ref (He.ga K y)] H Q :=
  ⟨a, x, fs, _, _, subE x y, rfl, h, fun u r => r, (Errs.two he mx my).2, q⟩
theorem g_isKV {K : PySem.W.Frag} {H : Hp} {Q : VK} {a : Addr} {x : Str} {fs : List (Str × V)} {L : List Str} (he : exErrs L K = true) (h : ExAt K H a x fs) (mx : x ∈ L) (q : Q (.bl true) H) : rIsK K [.ref a, .ty "ValueError"] H Q :=
  ⟨a, x, fs, _, _, true, rfl, h, fun u r => r, Errs.val he mx, q⟩
theorem exAt_bare {K : PySem.W.Frag} {H : Hp} {a : Addr} {x : Str} {L : List Str} (he : exErrs L K = true) (mx : x ∈ L) : ExAt K (upd H a (exK a (.ref (He.ga K x)) none)) a x [] := ⟨Errs.err he mx, .inl ⟨rfl, upd_same⟩⟩
theorem exAt_fld {K : PySem.W.Frag} {H : Hp} {a dd : Addr} {x : Str} {fs : List (Str × V)} {L : List Str} (he : exErrs L K = true) (mx : x ∈ L) (hd : H dd = some (.xd fs)) (ha : H a = none) : ExAt K (upd H a (exK a (.ref (He.ga K x)) (some dd))) a x fs :=
  ⟨Errs.err he mx, .inr ⟨dd, upd_same, at_new ha hd⟩⟩
/-- the clause takes it -/
theorem w_take {K : PySem.W.Frag} {x y : Str} {L : List Str} {d : Option Addr} {i : Nat} {ts : TS} {Wout : WX} {D : Ends} {σ : L2.St} {H : Hp} (he : exErrs L K = true) (mx : x ∈ L) (my : y ∈ (("StayError" : Str) :: L)) (hs : subE x y = true)
    (q : ∀ a, Fr H a → ts { nx := fun τ H' => D.nx (τ.set i none) H', rt := D.rt, bk := fun τ H' => D.bk (τ.set i none) H', ct := fun τ H' => D.ct (τ.set i none) H' } (σ.set i (some (.ref a))) (upd H a (exK a (.ref (He.ga K x)) d))) : wKp K (.ref (He.ga K y)) i ts Wout D (.ref (He.ga K x)) d σ H :=
  ⟨true, by rw [(Errs.two he mx my).1, hs], fun _ => q, fun h => by cases h⟩
theorem w_takeO {K : PySem.W.Frag} {x y : Str} {L : List Str} {d : Option Addr} {ts : TS} {Wout : WX} {D : Ends} {σ : L2.St} {H : Hp} (he : exErrs L K = true) (mx : x ∈ L) (my : y ∈ (("StayError" : Str) :: L)) (hs : subE x y = true)
    (q : ts D σ H) : wOnly K (.ref (He.ga K y)) (fun _ _ _ => ts) Wout D (.ref (He.ga K x)) d σ H :=
  ⟨true, by rw [(Errs.two he mx my).1, hs], fun _ _ _ => q, fun h => by cases h⟩
theorem g_tryK {K : PySem.W.Frag} {c : Value} {i : Nat} {tb : WX → TS} {ts : TS} {Wout : WX} {D : Ends} {σ : L2.St} {H : Hp} (h : tb (wKp K c i ts Wout D) D σ H) : tTryK K c i tb ts Wout D σ H := h
theorem g_tryO {K : PySem.W.Frag} {c : Value} {tb : WX → TS} {ts : TS} {Wout : WX} {D : Ends} {σ : L2.St} {H : Hp} (h : tb (wOnly K c (fun _ _ _ => ts) Wout D) D σ H) : tTryO K c tb ts Wout D σ H := h
theorem g_tMakeX {C : Addr} {sp : Sp} {dvs : List V} {W : WX} {t : TA} {σ : L2.St} {H : Hp} {Q : VK} (h : t σ H fun vs H1 => rMake C sp dvs (WE W σ) vs H1 Q) : tMakeX C sp dvs W t σ H Q := h
theorem g_callX {sp : Sp} {dvs : List V} {W : WX} {t : TA} {σ : L2.St} {H : Hp} {Q : VK} (h : t σ H fun vs H1 => sp (vs ++ dvs) H1 Q (WE W σ)) : tCallX sp dvs W t σ H Q := h
theorem g_seqTK {K : PySem.W.Frag} {c : Value} {i : Nat} {tb : WX → TS} {ts u : TS} {Wout : WX} {D : Ends} {σ : L2.St} {H : Hp} (h : tTryK K c i tb ts Wout { D with nx := u D } σ H) : tSeq (tTryK K c i tb ts Wout) u D σ H := h
theorem g_seqTO {K : PySem.W.Frag} {c : Value} {tb : WX → TS} {ts u : TS} {Wout : WX} {D : Ends} {σ : L2.St} {H : Hp} (h : tTryO K c tb ts Wout { D with nx := u D } σ H) : tSeq (tTryO K c tb ts Wout) u D σ H := h
theorem exAt_new {K : PySem.W.Frag} {H : Hp} {p a : Addr} {o : HO} {x : Str} {fs : List (Str × V)} (hp : Fr H p) (h : ExAt K H a x fs) : ExAt K (upd H p o) a x fs := h.same (same_new hp)
/-- e.f of a kept error -/
def rXat (K : PySem.W.Frag) (f : Str) (v : V) (H1 : Hp) (Q : VK) : Prop := ∃ (a : Addr) (x : Str) (fs : List (Str × V)) (y : V), v = .ref a ∧ ExAt K H1 a x fs ∧ PySem.W.findIn K (.ref (He.ga K x)) f = some none ∧ fs.lookup f = some y ∧ Q y H1
theorem g_xat0 {K : PySem.W.Frag} {te : TE} {f : Str} {σ : L2.St} {H : Hp} {Q : VK} (q : te σ H fun v H1 => rXat K f v H1 Q) : tXat K te f σ H Q := q
theorem g_xat {K : PySem.W.Frag} {f : Str} {H : Hp} {Q : VK} {a : Addr} {x : Str} {y : V} (h : ExAt K H a x [(f, y)]) (ci : exInit x f K = true) (q : Q y H) : rXat K f (.ref a) H Q := ⟨a, x, _, y, rfl, h, (exInit_ok ci).2.1, by simp [List.lookup], q⟩
theorem ite_subF {x y : Str} {A B : Prop} (h : subE x y = false) (q : B) : if subE x y = true then A else B := ite_f h q
theorem ite_subT {x y : Str} {A B : Prop} (h : subE x y = true) (q : A) : if subE x y = true then A else B := ite_t h q
theorem ite_nsubF {x y : Str} {A B : Prop} (h : subE x y = false) (q : A) : if (!subE x y) = true then A else B := ite_t (by rw [h]; rfl) q
theorem ats_rus {H : Hp} : ∀ {xs : List V} {rs : List RuleD}, Rus H xs rs → Paired (At H []) xs (rs.map RuleD.told)
  | _, _, .nil => .nil
  | _, _, .cons r t => .cons r.td.at0 (ats_rus t)
theorem allR_of {rs : List RuleD} (g : ∀ r ∈ rs, RuleD.good r) : AllR (rs.map RuleD.told) rs := by
  unfold AllR
  rw [List.map_map]
  exact List.map_congr_left fun r hr => asRule_told (g r hr)
theorem allR_inj {ds : List PyData} {rs us : List RuleD} (h : AllR ds rs) (k : AllR ds us) : rs = us := by
  unfold AllR at h k
  rw [h] at k
  exact (List.map_inj_right fun _ _ e => Option.some.inj e).mp k
theorem g_mkBookX {K : PySem.W.Frag} {E : XK} {H : Hp} {Q : VK} {vs dvs : List V} {y : V} {xs : List V} {ds : List PyData} (c : CFR K) (cb : CFB K) (cn : exInit "NoRule" "number" K = true) (cm : exBare "TooMany" K = true) (e : vs ++ dvs = [y]) (h : (y = .non ∧ xs = []) ∨ ∃ p, y = .ref p ∧ SqL K H p xs) (hp : Paired (At H []) xs ds) (hl : ds.length ≤ 1000)
    (q1 : ∀ i d dd H', ds[i]? = some d → asRule d = none → (∃ rs, AllR (ds.take i) rs) → Same H H' → H' dd = some (.xd [("number", .int (i : Nat))]) → E (.ref (He.ga K "NoRule")) (some dd) H')
    (q2 : ∀ rs H', AllR ds rs → 24 < rs.length → Same H H' → E (.ref (He.ga K "TooMany")) none H')
    (q : ∀ rs v F H', AllR ds rs → rs.length ≤ 24 → Same H H' → BookAt K H' F v rs → (∀ p ∈ F, Fr H p) → Q v H') : rMake (He.ga K "Book") (spx_Book_init K) dvs E vs H Q := by
  intro a dx ha hd hne
  have h1 : upd H dx (.own a) a = none := by rw [upd_ne hne.symm]; exact ha
  have sm : Same H (upd (upd H dx (.own a)) a (.ins (He.ga K "Book") dx [])) := (same_new hd).trans (same_new h1)
  have sk : ∀ H', Kp [a] (upd (upd H dx (.own a)) a (.ins (He.ga K "Book") dx [])) H' → Same H H' := fun H' k p o z => k _ _ (sm _ _ z) fun m => by
    rw [List.mem_singleton.mp m, ha] at z
    cases z
  rw [e]
  refine ⟨_, _, rfl, c, cb, cn, cm, a, dx, xs, ds, rfl, upd_same, ?_, Paired.mapP hp fun _ _ r => (r.same sm).add fun xs => ⟨by rw [upd_same]; simp, by rw [upd_same]; simp⟩, hl, ?_, ?_, ?_⟩
  · rcases h with h | ⟨p, h1, h2⟩
    · exact .inl h
    · exact .inr ⟨p, h1, Same.seq sm h2⟩
  · exact fun i d dd H' h1 h2 h3 k h4 => q1 i d dd H' h1 h2 h3 (sk H' k) h4
  · exact fun rs H' h1 h2 k => q2 rs H' h1 h2 (sk H' k)
  · exact fun rs H' F h1 h2 k b f => ⟨rfl, q rs _ F H' h1 h2 (sk H' k) b fun p hp => Same.free sm (f p hp)⟩
/-- rules alone: perhaps too many -/
theorem g_mkBookM {K : PySem.W.Frag} {E : XK} {H : Hp} {Q : VK} {vs dvs : List V} {p : Addr} {xs : List V} {rs : List RuleD} (c : CFR K) (cb : CFB K) (cn : exInit "NoRule" "number" K = true) (cm : exBare "TooMany" K = true) (e : vs ++ dvs = [.ref p]) (h : SqL K H p xs) (hp : Rus H xs rs) (hg : ∀ r ∈ rs, RuleD.good r) (hl : rs.length ≤ 1000)
    (q2 : 24 < rs.length → ∀ H', Same H H' → E (.ref (He.ga K "TooMany")) none H')
    (q : rs.length ≤ 24 → ∀ v F H', Same H H' → BookAt K H' F v rs → (∀ p ∈ F, Fr H p) → Q v H') : rMake (He.ga K "Book") (spx_Book_init K) dvs E vs H Q := by
  have al := allR_of hg
  refine g_mkBookX c cb cn cm e (.inr ⟨p, rfl, h⟩) (ds := rs.map RuleD.told) (ats_rus hp) (by rw [List.length_map]; exact hl) (fun i d dd H' h1 h2 => ?_) (fun us H' h1 h2 s => ?_) fun us v F H' h1 h2 s b f => ?_
  · rw [List.getElem?_map] at h1
    cases e : rs[i]? with
    | none => rw [e] at h1; cases h1
    | some r =>
      rw [e] at h1
      obtain rfl : r.told = d := Option.some.inj h1
      rw [asRule_told (hg r (List.mem_of_getElem? e))] at h2
      cases h2
  · obtain rfl := allR_inj al h1
    exact q2 h2 H' s
  · obtain rfl := allR_inj al h1
    exact q h2 v F H' s b f
def spx_laid (K : PySem.W.Frag) : Sp := Sp2 fun v u H Q E => CFR K ∧ CFB K ∧ exInit "NoRule" "number" K = true ∧ exBare "TooMany" K = true ∧ ∃ F1 r1 F2 r2, BookAt K H F1 v r1 ∧ BookAt K H F2 u r2 ∧ r1.length ≤ 24 ∧ r2.length ≤ 24 ∧ (∀ r ∈ r1, RuleD.good r) ∧ (∀ r ∈ r2, RuleD.good r) ∧
  (24 < r1.length + r2.length → ∀ H', Same H H' → E (.ref (He.ga K "TooMany")) none H') ∧
  (r1.length + r2.length ≤ 24 → ∀ x F H', Same H H' → BookAt K H' F x (r1 ++ r2) → (∀ p ∈ F, Fr H p) → Q x H')
theorem gx_laid {K : PySem.W.Frag} {F1 F2 : List Addr} {r1 r2 : List RuleD} {v u : V} {H : Hp} {Q : VK} {E : XK} (c : CFR K) (cb : CFB K) (cn : exInit "NoRule" "number" K = true) (cm : exBare "TooMany" K = true) (b1 : BookAt K H F1 v r1) (b2 : BookAt K H F2 u r2) (l1 : r1.length ≤ 24) (l2 : r2.length ≤ 24) (g1 : ∀ r ∈ r1, RuleD.good r) (g2 : ∀ r ∈ r2, RuleD.good r)
    (q2 : 24 < r1.length + r2.length → ∀ H', Same H H' → E (.ref (He.ga K "TooMany")) none H')
    (q : r1.length + r2.length ≤ 24 → ∀ x F H', Same H H' → BookAt K H' F x (r1 ++ r2) → (∀ p ∈ F, Fr H p) → Q x H') : spx_laid K ([v, u] ++ []) H Q E := ⟨_, _, rfl, c, cb, cn, cm, F1, r1, F2, r2, b1, b2, l1, l2, g1, g2, q2, q⟩
def x_laid (K : PySem.W.Frag) (E : XK) : TS :=
  (tRet (tMakeX (He.ga K "Book") (spx_Book_init K) [] (XW E) (tCons (tOp rCat (tMeth (He.ga K "Book") "rules" (sp_Book_rules K) [] E0 (tVar 0) tNil) (tMeth (He.ga K "Book") "rules" (sp_Book_rules K) [] E0 (tVar 1) tNil)) tNil)))
theorem purex_laid {K : PySem.W.Frag} {v u : V} {H : Hp} {Q : VK} {E : XK} (h : spx_laid K [v, u] H Q E) : x_laid K E { nx := fun _ H' => Q .non H', rt := Q } [some v, some u] H := by
  obtain ⟨v, u, e, c, cb, cn, cm, F1, r1, F2, r2, b1, b2, l1', l2', g1, g2, q2, q⟩ := h
  cases e
  unfold x_laid
  walk_at "ss"
  rename_i p1 H1 y1 s1 f1 a1 R1 p2 H2 y2 s2 f2 a2 R2
  have l1 := ru_len R1
  have l2 := ru_len R2
  walk_at "ss"
  rename_i p3 hp3
  refine g_mkBookM c cb cn cm rfl (SqL.of upd_same) (ru_app (ru_new hp3 (ru_same s2 R1)) (ru_new hp3 R2)) (gd_app g1 g2) (by rw [List.length_append]; omega) (fun l H' s => ?_) fun l x F H3 s3 bk ff => ?_
  · rw [List.length_append] at l
    exact q2 l _ (by walk_at "sm")
  · rw [List.length_append] at l
    walk_at "ss"
    exact q l x F H3 (by walk_at "sm") bk fun p hp => fr_of (ff p hp) (by walk_at "sm")
/-! YLt: data < data (alike data), the order of (number, (number, number)). -/
open PySem PySem.Spec PyProof.Rows L2
def rLtD (K : PySem.W.Frag) : R2 := fun x y H Q => ∃ d e, Dp K H x d ∧ Dp K H y e ∧ PySem.W.alike d e = true ∧ d ≠ .none ∧ d.depth ≤ 60 ∧ Q (.bl (PySem.W.dataLt d e)) H
theorem lt_ints : ∀ {a b : Int} {xs ys : List PyData}, PyProof.Rows.lexLt PyProof.Rows.itemOrd (PySem.W.keyToksAll (.int a :: xs)) (PySem.W.keyToksAll (.int b :: ys)) = if a = b then PyProof.Rows.lexLt PyProof.Rows.itemOrd (PySem.W.keyToksAll xs) (PySem.W.keyToksAll ys) else decide (a < b) := by
  intro a b xs ys
  by_cases z : a = b
  · subst z
    rw [if_pos rfl, PySem.W.dataLt_all_yes (x := .int a) (y := .int a) rfl (by rw [PyData.eqv]; simp)]
  · rw [if_neg z, PySem.W.dataLt_all_no (x := .int a) (y := .int b) rfl (by rw [PyData.eqv]; simp [z]), PySem.W.dataLt_int]
theorem lt_nil : PyProof.Rows.lexLt PyProof.Rows.itemOrd (PySem.W.keyToksAll []) (PySem.W.keyToksAll []) = false := PyProof.Rows.lex_irrefl _
theorem lt_two {a b c d : Int} : PySem.W.dataLt (.tuple [.int a, .int b]) (.tuple [.int c, .int d]) = decide (a < c ∨ a = c ∧ b < d) := by
  rw [PySem.W.dataLt_tuple, lt_ints, lt_ints, lt_nil]
  by_cases z : a = c
  · rw [if_pos z]
    by_cases y : b = d
    · rw [if_pos y]; simp; omega
    · rw [if_neg y]; simp [z]
  · rw [if_neg z]; simp [z]
/-! YBk: books that stand somewhere, days from one to another. -/
open PySem PySem.Spec PyProof.Rows L2
/-- a book stands at v -/
def BkAt (K : PySem.W.Frag) (H : Hp) (v : V) (rs : List RuleD) : Prop := ∃ F, BookAt K H F v rs
def GoodB (bs : List (List RuleD)) : Prop := ∀ rs ∈ bs, ∀ r ∈ rs, RuleD.good r
def StayB (c g : Int) : Prop := 0 ≤ c ∧ c < g ∧ g ≤ c + 14 ∧ g ≤ 1000000
theorem while_m {c : TT} {tb : TS} {D : Ends} {σ : L2.St} {H : Hp} (W : Nat → L2.St → Hp → Prop) {m0 : Nat} (h0 : W m0 σ H)
    (hs : ∀ m σ H, W m σ H → c σ H fun b H1 => if b = true then tb { D with nx := fun σ' H' => ∃ m', m' < m ∧ W m' σ' H', ct := fun σ' H' => ∃ m', m' < m ∧ W m' σ' H', bk := D.nx } σ H1 else D.nx σ H1)
    (mono : ∀ σ H Q Q', (∀ b H1, Q b H1 → Q' b H1) → c σ H Q → c σ H Q') : tWhile c tb D σ H := by
  refine ⟨W, ⟨m0, h0⟩, fun m σ H w => ?_⟩
  refine mono σ H _ _ (fun b H1 q => ?_) (hs m σ H w)
  cases b with
  | true => exact ⟨_, fun _ _ h => h, q⟩
  | false => exact q
/-! YHo: hindrances (as in YHn), of the program alone. -/
open PySem PySem.Spec PyProof.Rows L2
def hD (h : Int × Wd × Int) : PyData := .tuple [.int h.1, .str h.2.1.word, .int h.2.2]
def hindB (rs : List RuleD) (w : Wd) (c g d : Int) : Bool := match w with
  | .price => !soldB rs d | .come => !comeB rs .come d | .go => !comeB rs .go d | .least => decide (1 < numI rs .least d) | .most => decide (numI rs .most d < g - d) | _ => false
def hindP (rs : List RuleD) (w : Wd) (c g d : Int) : Bool := if w = .go then decide (c < d) && hindB rs w c g d else !decide (d = g) && hindB rs w c g d
def daysW (w : Wd) (c g : Int) : List Int := if w = .go then days (c + 1) (g + 1) else days c g
def rowW (k : Int) (rs : List RuleD) (c g : Int) (w : Wd) : List (Int × Wd × Int) := ((daysW w c g).filter (hindB rs w c g)).map fun d => (k, w, d)
abbrev wH : List Wd := [.price, .come, .go, .least, .most]
def rowB (k : Int) (rs : List RuleD) (c g : Int) : List (Int × Wd × Int) := wH.flatMap (rowW k rs c g)
def hindAll (c g : Int) : Int → List (List RuleD) → List (Int × Wd × Int)
  | _, [] => []
  | k, rs :: r => rowB k rs c g ++ hindAll c g (k + 1) r
def sp_hinders (K : PySem.W.Frag) : Sp := Sp4 fun v u d y H Q E => CFR K ∧ CFB K ∧ ∃ (rs : List RuleD) (w : Wd) (day : Int) (a : Addr) (c g : Int), BkAt K H v rs ∧ (∀ r ∈ rs, RuleD.good r) ∧ w ∈ wH ∧ u = .str w.word ∧ d = .int day ∧ y = .ref a ∧ SqT K H a [.int c, .int g] ∧ ∀ H', Same H H' → Q (.bl (hindP rs w c g day)) H'
def sp_hindrances (K : PySem.W.Frag) : Sp := Sp2 fun v y H Q E => CFR K ∧ CFB K ∧ exHind K = true ∧ ∃ (p : Addr) (vs : List V) (bs : List (List RuleD)) (a : Addr) (c g : Int), v = .ref p ∧ SqL K H p vs ∧ Paired (BkAt K H) vs bs ∧ GoodB bs ∧ bs.length ≤ 10 ∧ y = .ref a ∧ SqT K H a [.int c, .int g] ∧ StayB c g ∧
  ∀ (q : Addr) (ys : List V) (H' : Hp), Same H H' → Fr H q → H' q = some (.lst ys) → Tds H' ys ((hindAll c g 0 bs).map hD) → Q (.ref q) H'
/-! YHl: what holds a stay off: the plain law. -/
open PySem PySem.Spec PyProof.Rows L2
abbrev Hi := Int × Wd × Int
/-- whether a book lets a stay be had with some hindrances in force -/
def letsP (rs : List RuleD) (k : Int) (P : Hi → Bool) (b e : Int) : Bool :=
  !P (k, .come, b) && (!P (k, .go, e) && (!(P (k, .least, b) && decide (e - b < numI rs .least b)) && (!(P (k, .most, b) && decide (numI rs .most b < e - b)) && (days b e).all fun d => !P (k, .price, d))))
/-- whether one of the books does -/
def someP (bs : List (List RuleD)) (P : Hi → Bool) (b e : Int) : Bool := (List.range bs.length).any fun i => letsP (bs.getD i []) (i : Int) P b e
/-- stays one behind another, each of which one lets be had -/
inductive Road (S : Int → Int → Bool) (g : Int) : Int → Int → Prop
  | nil (a : Int) : Road S g a a
  | cons {a b c : Int} : a < b → b ≤ g → S a b = true → Road S g b c → Road S g a c
open Classical in
/-- whether roads lead through -/
noncomputable def leadsB (S : Int → Int → Bool) (c g : Int) : Bool := decide (Road S g c g)
open Classical in
/-- what a stay is held off by -/
noncomputable def heldB (bs : List (List RuleD)) (c g : Int) (P : Hi → Bool) : Bool := !leadsB (someP bs P) c g
/-! YSj: sorted of a list of tuples (stay, number); max with a default. -/
open PySem PySem.Spec PyProof.Rows L2
/-- a tuple of a pair and a number -/
def SjAt (H : Hp) (v : V) (q : Pr × Int) : Prop := ∃ t x, v = .ref t ∧ H t = some (.tup [x, .int q.2]) ∧ PrAt H x q.1
abbrev SjsAt (H : Hp) (xs : List V) (qs : List (Pr × Int)) : Prop := Paired (SjAt H) xs qs
def sjD (q : Pr × Int) : PyData := .tuple [prD q.1, .int q.2]
theorem sj_tk {G G' : Hp} {v : V} {q : Pr × Int} (e : Tk G G') (h : SjAt G v q) : SjAt G' v q := let ⟨t, x, a, b, c⟩ := h; ⟨t, x, a, e _ _ b, pr_tk e c⟩
theorem sjs_tk {G G' : Hp} {xs : List V} {qs : List (Pr × Int)} (e : Tk G G') (h : SjsAt G xs qs) : SjsAt G' xs qs := Paired.mapP h fun _ _ q => sj_tk e q
theorem dp_sj {K : PySem.W.Frag} {H : Hp} {v : V} {q : Pr × Int} (h : SjAt H v q) : Dp K H v (sjD q) := by
  obtain ⟨t, x, rfl, e, hx⟩ := h
  exact .tup (SqT.of e) (.cons (dp_pr hx) (.cons (.int _) .nil))
abbrev VJ := V × (Pr × Int)
theorem each_sj {X : Cx} {pins : List (Addr × Obj)} {σ : L2.St} {H : Hp} {s : Shared} (I : Inv X pins σ H s) : ∀ {xs : List V} {its : List Value} {qs : List (Pr × Int)}, Vals xs its → SjsAt H xs qs → ∃ bs : List VJ, bs.map (·.1) = xs ∧ bs.map (·.2) = qs ∧ PySem.W.EachIs (fun v (b : VJ) => RelV b.1 v ∧ SjAt H b.1 b.2) its bs ∧ PySem.W.EachIs (fun v (b : VJ) => ∃ as, Reads s.heap v (sjD b.2) as) its bs
  | [], _, [], .nil, _ => ⟨[], rfl, rfl, .nil, .nil⟩
  | x :: xs, v :: its, q :: qs, .cons r t, .cons h k => by
    obtain ⟨bs, e1, e2, h1, h2⟩ := each_sj I t k
    exact ⟨(x, q) :: bs, by rw [List.map_cons, e1], by rw [List.map_cons, e2], .cons ⟨r, h⟩ h1, .cons (Dp.reads I (sjD q) x v (dp_sj h) r) h2⟩
theorem each_outJ {H : Hp} : ∀ {out : List Value} {bs : List VJ}, PySem.W.EachIs (fun v (b : VJ) => RelV b.1 v ∧ SjAt H b.1 b.2) out bs → Vals (bs.map (·.1)) out ∧ SjsAt H (bs.map (·.1)) (bs.map (·.2))
  | _, _, .nil => ⟨.nil, .nil⟩
  | _, _, .cons h t => by
    obtain ⟨h1, h2⟩ := each_outJ t
    exact ⟨.cons h.1 h1, .cons h.2 h2⟩
theorem le_sj {p q : Pr × Int} (h : PySem.W.dataLe false sjD p q = true) : p.1.1 ≤ q.1.1 := by
  refine Decidable.byContradiction fun c => ?_
  have lt : PySem.W.dataLt (sjD q) (sjD p) = true := by
    have n : PyData.eqv (prD q.1) (prD p.1) = false := by
      rw [eqv_pr, decide_eq_false_iff_not]
      intro e
      rw [e] at c
      omega
    unfold sjD
    rw [PySem.W.dataLt_pair rfl rfl, if_neg (by rw [n]; decide)]
    show PySem.W.dataLt (prD q.1) (prD p.1) = true
    unfold prD
    rw [lt_two, decide_eq_true_eq]
    omega
  have no : PySem.W.dataLt (sjD q) (sjD p) = false := by simpa [PySem.W.dataLe, PySem.W.sortLe, PySem.W.dataLt] using h
  rw [lt] at no
  cases no
/-- the tuples sorted -/
def sortJ (qs : List (Pr × Int)) : List (Pr × Int) := qs.mergeSort (PySem.W.dataLe false sjD)
theorem sortJ_perm (qs : List (Pr × Int)) : (sortJ qs).Perm qs := List.mergeSort_perm _ _
theorem sortJ_up (qs : List (Pr × Int)) : (sortJ qs).Pairwise (fun p q => p.1.1 ≤ q.1.1) := (PySem.W.sort_pairwise (PySem.W.sortLe_total _ _ _) qs).imp fun h => le_sj h
/-- sorted(xs), xs a list of tuples (stay, number): the stays' first days rise -/
def rSortJ (K : PySem.W.Frag) : List V → Hp → VK → Prop := fun vs H Q => ∃ (a : Addr) (xs : List V) (qs : List (Pr × Int)), vs = [V.ref a] ∧ SqL K H a xs ∧ SjsAt H xs qs ∧
  ∀ (ys : List V) (p : Addr), Fr H p → SjsAt H ys (sortJ qs) → Q (.ref p) (upd H p (.lst ys))
theorem cr_sortJ {X : Cx} {k : Nat} (room : RoomG k X.A) : CallR X (.builtin "sorted") (rSortJ X.K) := by
  rintro pins s σ H vs us Q I r ⟨a, xs, qs, rfl, hs, hp, q⟩
  obtain ⟨its, rv, hL, hz⟩ := I.list hs
  rw [Vals.ref1 r]
  have un := room.units
  obtain ⟨bs, e1, e2, he, hr⟩ := each_sj I rv hp
  have lb : bs.length = xs.length := by rw [← e1, List.length_map]
  refine PySem.W.sorted_data (enc := fun b : VJ => sjD b.2) hL.isList he hr (.of fun b b' => by simp [sjD, prD, PySem.W.alike, PySem.W.alikeAll]) (.tuples fun b => ⟨_, _, rfl⟩) (by rw [lb]; exact hz) (fun b _ => ?_) fun out hl ho => ?_
  · have : (sjD b.2).depth ≤ 4 := by simp [sjD, prD, PyData.depth, PyData.depthAll]
    omega
  obtain ⟨ep, he'⟩ := PyProof.Rows.sortedAll_at s.heap its out.toArray
  obtain ⟨o1, o2⟩ := each_outJ ho
  have pm := List.mergeSort_perm bs (PySem.W.dataLe false fun b : VJ => sjD b.2)
  have tot : PySem.W.TotalLe (PySem.W.dataLe false fun b : VJ => sjD b.2) := PySem.W.sortLe_total _ _ _
  have hlen : ((bs.mergeSort (PySem.W.dataLe false fun b : VJ => sjD b.2)).map (·.1)).length ≤ sizeLine := by
    rw [List.length_map, pm.length_eq, lb]
    exact hz
  refine ⟨.ref _, upd H (s.heap.objs.size + 1) (.lst ((bs.mergeSort (PySem.W.dataLe false fun b : VJ => sjD b.2)).map (·.1))), I.laid (t' := s.toks) (fun _ _ => PyProof.Rows.sortedAll_old) (Nat.le_succ _) ⟨hlen, out, ep, o1, he'⟩, rfl, q _ _ (I.hok.fresh (Nat.le_succ _)) ?_⟩
  have e3 : sortJ qs = (bs.mergeSort (PySem.W.dataLe false fun b : VJ => sjD b.2)).map (·.2) := by
    rw [← e2]
    exact (List.map_mergeSort (f := fun b : VJ => b.2) (r := PySem.W.dataLe false fun b : VJ => sjD b.2) (s := PySem.W.dataLe false sjD) (l := bs) fun a _ b _ => rfl).symm
  rw [e3]
  exact o2
theorem g_sortJ {K : PySem.W.Frag} {H : Hp} {Q : VK} {a : Addr} {xs : List V} {qs : List (Pr × Int)} (h : SqL K H a xs) (t : SjsAt H xs qs) (q : ∀ (ys : List V) (p : Addr), Fr H p → SjsAt H ys (sortJ qs) → Q (.ref p) (upd H p (.lst ys))) : rSortJ K [.ref a] H Q := ⟨a, xs, qs, rfl, h, t, q⟩
def rMaxD (K : PySem.W.Frag) : List V → List V → Hp → VK → Prop := fun vs zs H Q => ∃ (a : Addr) (ns : List Int) (d : Int), vs = [.ref a] ∧ zs = [.int d] ∧ SqL K H a (ns.map V.int) ∧ (ns = [] → Q (.int d) H) ∧ ∀ m, m ∈ ns → (∀ x ∈ ns, x ≤ m) → Q (.int m) H
/-! YDe: rooms dealt in turn (plain). -/
open PySem PySem.Spec PyProof.Rows L2
/-- the first room that is free on a day -/
def freeR : List Int → Int → Nat
  | [], _ => 0
  | u :: us, c => if u ≤ c then 0 else freeR us c + 1
theorem freeR_le : ∀ (us : List Int) (c : Int), freeR us c ≤ us.length
  | [], _ => Nat.le_refl _
  | u :: us, c => by
    unfold freeR
    split
    · omega
    · have := freeR_le us c
      simp only [List.length_cons]
      omega
theorem freeR_at : ∀ (us : List Int) (c : Int) {k : Nat} {x : Int}, us[k]? = some x → k < freeR us c → c < x
  | [], _, k, x, h, _ => by simp at h
  | u :: us, c, k, x, h, l => by
    unfold freeR at l
    split at l
    · omega
    · cases k with
      | zero => simp at h; omega
      | succ k => exact freeR_at us c (by simpa using h) (by omega)
theorem freeR_is : ∀ (us : List Int) (c : Int) {x : Int}, us[freeR us c]? = some x → x ≤ c
  | [], _, x, h => by simp [freeR] at h
  | u :: us, c, x, h => by
    unfold freeR at h
    split at h
    · simp at h; omega
    · exact freeR_is us c (by simpa using h)
/-- the first free one, found by looking at one after another -/
theorem freeR_eq (us : List Int) (c : Int) {k : Nat} (h : ∀ j x, us[j]? = some x → j < k → c < x) (e : k = us.length ∨ ∃ x, us[k]? = some x ∧ x ≤ c) : freeR us c = k := by
  have l := freeR_le us c
  rcases Nat.lt_trichotomy (freeR us c) k with z | z | z
  · exfalso
    rcases e with e | ⟨x, hx, -⟩
    · have hx := List.getElem?_eq_getElem (show freeR us c < us.length by omega)
      have a := h _ _ hx z
      have b := freeR_is us c hx
      omega
    · have lk : k < us.length := (List.getElem?_eq_some_iff.mp hx).1
      have hx := List.getElem?_eq_getElem (show freeR us c < us.length by omega)
      have a := h _ _ hx z
      have b := freeR_is us c hx
      omega
  · exact z
  · exfalso
    rcases e with e | ⟨x, hx, hc⟩
    · omega
    · have := freeR_at us c hx z
      omega
def putR (us : List Int) (c g : Int) : List Int := if freeR us c < us.length then us.set (freeR us c) g else us ++ [g]
def disj (p q : Pr × Nat) : Prop := p.2 = q.2 → p.1.2 ≤ q.1.1 ∨ q.1.2 ≤ p.1.1
def cov (d : Int) (p : Pr × Nat) : Bool := decide (p.1.1 ≤ d) && decide (d < p.1.2)
/-- what holds of the stays that have rooms -/
structure Dealt (us : List Int) (D : List (Pr × Nat)) : Prop where
  len : ∀ p ∈ D, p.2 < us.length
  top : ∀ p ∈ D, ∀ x, us[p.2]? = some x → p.1.2 ≤ x
  att : ∀ r x, us[r]? = some x → ∃ p ∈ D, p.2 = r ∧ p.1.2 = x
  dis : D.Pairwise disj
  peak : us.length = 0 ∨ ∃ d, us.length ≤ D.countP (cov d)
theorem Dealt.nil : Dealt [] [] := ⟨by simp, by simp, by simp, List.Pairwise.nil, .inl rfl⟩
theorem disj_symm {p q : Pr × Nat} (h : disj p q) : disj q p := fun e => (h e.symm).symm
theorem Dealt.step {us : List Int} {D : List (Pr × Nat)} (h : Dealt us D) {c g : Int} (lt : c < g) (low : ∀ p ∈ D, p.1.1 ≤ c) : Dealt (putR us c g) (D ++ [((c, g), freeR us c)]) := by
  have le := freeR_le us c
  have free : ∀ p ∈ D, p.2 = freeR us c → p.1.2 ≤ c := fun p hp e => by
    obtain ⟨x, hx⟩ : ∃ x, us[p.2]? = some x := ⟨_, List.getElem?_eq_getElem (h.len p hp)⟩
    have a := h.top p hp _ hx
    rw [e] at hx
    have b := freeR_is us c hx
    omega
  have dis : (D ++ [((c, g), freeR us c)]).Pairwise disj := by
    rw [List.pairwise_append]
    refine ⟨h.dis, List.pairwise_singleton .., fun p hp q hq => ?_⟩
    rw [List.mem_singleton.mp hq]
    exact fun e => .inl (free p hp e)
  by_cases z : freeR us c < us.length
  · have e : putR us c g = us.set (freeR us c) g := if_pos z
    rw [e]
    refine ⟨fun p hp => ?_, fun p hp x hx => ?_, fun r x hx => ?_, dis, ?_⟩
    · rw [List.length_set]
      rcases List.mem_append.mp hp with hp | hp
      · exact h.len p hp
      · rw [List.mem_singleton.mp hp]; exact z
    · rw [List.getElem?_set] at hx
      rcases List.mem_append.mp hp with hp | hp
      · split at hx
        · rename_i e
          have := free p hp e.symm
          have := Option.some.inj hx
          omega
        · exact h.top p hp x hx
      · rw [List.mem_singleton.mp hp] at hx ⊢
        simp only [if_true, z] at hx
        have := Option.some.inj hx
        show g ≤ x
        omega
    · rw [List.getElem?_set] at hx
      split at hx
      · rename_i e
        exact ⟨_, List.mem_append_right _ (List.mem_singleton.mpr rfl), e, Option.some.inj hx⟩
      · obtain ⟨p, hp, q⟩ := h.att r x hx
        exact ⟨p, List.mem_append_left _ hp, q⟩
    · rw [List.length_set]
      rcases h.peak with h | ⟨d, h⟩
      · exact .inl h
      · exact .inr ⟨d, by rw [List.countP_append]; omega⟩
  · have e : putR us c g = us ++ [g] := if_neg z
    have er : freeR us c = us.length := by omega
    rw [e]
    refine ⟨fun p hp => ?_, fun p hp x hx => ?_, fun r x hx => ?_, dis, .inr ⟨c, ?_⟩⟩
    · rw [List.length_append, List.length_singleton]
      rcases List.mem_append.mp hp with hp | hp
      · have := h.len p hp
        omega
      · rw [List.mem_singleton.mp hp, er]
        exact Nat.lt_succ_self _
    · rcases List.mem_append.mp hp with hp | hp
      · rw [List.getElem?_append_left (h.len p hp)] at hx
        exact h.top p hp x hx
      · rw [List.mem_singleton.mp hp] at hx ⊢
        simp [er] at hx
        show g ≤ x
        omega
    · by_cases l : r < us.length
      · rw [List.getElem?_append_left l] at hx
        obtain ⟨p, hp, q⟩ := h.att r x hx
        exact ⟨p, List.mem_append_left _ hp, q⟩
      · have lr : r = us.length := by
          have := (List.getElem?_eq_some_iff.mp hx).1
          rw [List.length_append, List.length_singleton] at this
          omega
        subst lr
        simp at hx
        exact ⟨_, List.mem_append_right _ (List.mem_singleton.mpr rfl), er, hx⟩
    · rw [List.length_append, List.length_singleton, List.countP_append]
      have one : [((c, g), freeR us c)].countP (cov c) = 1 := by simp [cov, lt]
      rw [one, List.countP_eq_length_filter, ← List.length_map (f := fun p : Pr × Nat => p.2)]
      have := nat_nodup_len (List.range us.length) ((D.filter (cov c)).map (·.2)) List.nodup_range fun r hr => by
        have l := List.mem_range.mp hr
        have hx := List.getElem?_eq_getElem l
        obtain ⟨p, hp, e1, e2⟩ := h.att r _ hx
        have gt := freeR_at us c hx (by omega)
        refine List.mem_map.mpr ⟨p, List.mem_filter.mpr ⟨hp, ?_⟩, e1⟩
        have := low p hp
        simp only [cov, Bool.and_eq_true, decide_eq_true_eq]
        omega
      rw [List.length_range] at this
      omega
/-- the rooms of stays in turn -/
def dealR : List Pr → List Int → List Nat
  | [], _ => []
  | p :: ps, us => freeR us p.1 :: dealR ps (putR us p.1 p.2)
def endR : List Pr → List Int → List Int
  | [], us => us
  | p :: ps, us => endR ps (putR us p.1 p.2)
theorem dealt_all : ∀ (ps : List Pr) (us : List Int) (D : List (Pr × Nat)), Dealt us D → (∀ p ∈ ps, p.1 < p.2) → ps.Pairwise (fun p q => p.1 ≤ q.1) → (∀ p ∈ D, ∀ q ∈ ps, p.1.1 ≤ q.1) → Dealt (endR ps us) (D ++ ps.zip (dealR ps us))
  | [], us, D, h, _, _, _ => by simpa [dealR, endR] using h
  | (c, g) :: ps, us, D, h, ok, so, low => by
    have h1 := h.step (ok (c, g) List.mem_cons_self) fun p hp => low p hp (c, g) List.mem_cons_self
    have h2 := dealt_all ps _ _ h1 (fun p hp => ok p (List.mem_cons_of_mem _ hp)) (List.pairwise_cons.mp so).2 fun p hp q hq => by
      rcases List.mem_append.mp hp with hp | hp
      · exact low p hp q (List.mem_cons_of_mem _ hq)
      · rw [List.mem_singleton.mp hp]
        exact (List.pairwise_cons.mp so).1 q hq
    rw [List.append_assoc] at h2
    exact h2
theorem dealR_len : ∀ (ps : List Pr) (us : List Int), (dealR ps us).length = ps.length
  | [], _ => rfl
  | p :: ps, us => by rw [dealR, List.length_cons, dealR_len, List.length_cons]
theorem endR_len : ∀ (ps : List Pr) (us : List Int), (endR ps us).length ≤ us.length + ps.length
  | [], us => Nat.le_refl _
  | p :: ps, us => by
    have := endR_len ps (putR us p.1 p.2)
    have : (putR us p.1 p.2).length ≤ us.length + 1 := by
      unfold putR
      split <;> simp
    rw [endR, List.length_cons]
    omega
theorem dealR_at : ∀ (ps : List Pr) (us : List Int) (k : Nat) {p : Pr}, ps[k]? = some p → (dealR ps us)[k]? = some (freeR (endR (ps.take k) us) p.1) ∧ endR (ps.take (k + 1)) us = putR (endR (ps.take k) us) p.1 p.2
  | [], _, k, _, h => by simp at h
  | q :: ps, us, 0, p, h => by
    simp at h
    subst h
    exact ⟨rfl, rfl⟩
  | q :: ps, us, k + 1, p, h => dealR_at ps (putR us q.1 q.2) k (by simpa using h)
/-- what the law asks of the stays with their rooms -/
structure Rooms (n : Nat) (D : List (Pr × Nat)) : Prop where
  use : ∀ r, r < n ↔ ∃ p ∈ D, p.2 = r
  dis : D.Pairwise disj
  most : ∀ d, D.countP (cov d) ≤ n
  peak : n = 0 ∨ ∃ d, D.countP (cov d) = n
theorem Dealt.rooms {us : List Int} {D : List (Pr × Nat)} (h : Dealt us D) (ok : ∀ p ∈ D, p.1.1 < p.1.2) : Rooms us.length D := by
  have most : ∀ d, D.countP (cov d) ≤ us.length := fun d => by
    rw [List.countP_eq_length_filter, ← List.length_map (f := fun p : Pr × Nat => p.2), ← List.length_range (n := us.length)]
    refine nat_nodup_len _ _ (List.pairwise_map.mpr ((h.dis.filter _).imp_of_mem fun {p q} hp hq e z => ?_)) fun r hr => ?_
    · have a := (List.mem_filter.mp hp).2
      have b := (List.mem_filter.mp hq).2
      simp only [cov, Bool.and_eq_true, decide_eq_true_eq] at a b
      have := e z
      omega
    · obtain ⟨p, hp, rfl⟩ := List.mem_map.mp hr
      exact List.mem_range.mpr (h.len p (List.mem_filter.mp hp).1)
  refine ⟨fun r => ⟨fun l => ?_, ?_⟩, h.dis, most, ?_⟩
  · obtain ⟨p, hp, e, -⟩ := h.att r _ (List.getElem?_eq_getElem l)
    exact ⟨p, hp, e⟩
  · rintro ⟨p, hp, rfl⟩
    exact h.len p hp
  · rcases h.peak with e | ⟨d, e⟩
    · exact .inl e
    · exact .inr ⟨d, Nat.le_antisymm (most d) e⟩
theorem Rooms.perm {n : Nat} {D D' : List (Pr × Nat)} (h : Rooms n D) (pm : D'.Perm D) : Rooms n D' :=
  ⟨fun r => (h.use r).trans ⟨fun ⟨p, a, b⟩ => ⟨p, pm.mem_iff.mpr a, b⟩, fun ⟨p, a, b⟩ => ⟨p, pm.mem_iff.mp a, b⟩⟩, (pm.pairwise_iff fun e => disj_symm e).mpr h.dis, fun d => by rw [pm.countP_eq]; exact h.most d, h.peak.imp id fun ⟨d, e⟩ => ⟨d, by rw [pm.countP_eq]; exact e⟩⟩
/-! ### the rooms laid at their stays' places -/
theorem zip_at {ps : List Pr} {F : List Nat} (l : F.length = ps.length) : ps.zip F = (List.range ps.length).map fun i => (ps.getD i (0, 0), F.getD i 0) := by
  apply List.ext_getElem?
  intro i
  rw [List.getElem?_map]
  by_cases h : i < ps.length
  · rw [List.getElem?_range h]
    have h2 : i < F.length := by omega
    simp [List.getElem?_zip_eq_some, List.getD_eq_getElem?_getD, List.getElem?_eq_getElem h, List.getElem?_eq_getElem h2]
  · simp [List.getElem?_eq_none (show (ps.zip F).length ≤ i by simp; omega), h]
/-- us: the stays with their places, in the sorted order; each place holds its stay's room -/
theorem dealt_rooms {ps : List Pr} {us : List (Pr × Int)} {F : List Nat} (pm : us.Perm ((List.range ps.length).map fun i => (ps.getD i (0, 0), (i : Int)))) (so : us.Pairwise fun p q => p.1.1 ≤ q.1.1) (ok : ∀ p ∈ ps, p.1 < p.2) (l : F.length = ps.length)
    (at_ : ∀ (k : Nat) (q : Pr × Int), us[k]? = some q → F[q.2.toNat]? = (dealR (us.map (·.1)) [])[k]?) : Rooms (endR (us.map (·.1)) []).length (ps.zip F) := by
  have ul : us.length = ps.length := by rw [pm.length_eq]; simp
  have mem : ∀ q ∈ us, q.1 ∈ ps := fun q hq => by
    obtain ⟨i, hi, rfl⟩ := List.mem_map.mp (pm.mem_iff.mp hq)
    have hi := List.mem_range.mp hi
    rw [List.getD_eq_getElem?_getD, List.getElem?_eq_getElem hi]
    exact List.getElem_mem hi
  have ok2 : ∀ p ∈ us.map (·.1), p.1 < p.2 := fun p hp => by
    obtain ⟨q, hq, rfl⟩ := List.mem_map.mp hp
    exact ok _ (mem q hq)
  have D := dealt_all (us.map (·.1)) [] [] Dealt.nil ok2 (List.pairwise_map.mpr so) (by simp)
  rw [List.nil_append] at D
  refine (D.rooms fun p hp => ?_).perm ?_
  · exact ok2 _ (List.of_mem_zip hp).1
  · have e : (us.map (·.1)).zip (dealR (us.map (·.1)) []) = us.map fun q => (q.1, F.getD q.2.toNat 0) := by
      apply List.ext_getElem?
      intro k
      rw [List.getElem?_map]
      cases h : us[k]? with
      | none =>
        have := List.getElem?_eq_none_iff.mp h
        rw [List.getElem?_eq_none]
        · rfl
        · simp
          omega
      | some q =>
        have lk : k < us.length := (List.getElem?_eq_some_iff.mp h).1
        have r := at_ k q h
        obtain ⟨x, hx⟩ : ∃ x, (dealR (us.map (·.1)) [])[k]? = some x := ⟨_, List.getElem?_eq_getElem (by rw [dealR_len]; simpa using lk)⟩
        rw [hx] at r
        rw [List.getElem?_zip_eq_some.mpr (show ((us.map (·.1))[k]? = some (q.1, x).1 ∧ (dealR (us.map (·.1)) [])[k]? = some (q.1, x).2) from ⟨by rw [List.getElem?_map, h]; rfl, hx⟩)]
        simp [List.getD_eq_getElem?_getD, r]
    rw [e, zip_at l]
    have := pm.map fun q : Pr × Int => (q.1, F.getD q.2.toNat 0)
    rw [List.map_map] at this
    exact this.symm
/-! YDw: dealt, walked. -/
open PySem PySem.Spec PyProof.Rows L2
def enumJ (ps : List Pr) : List (Pr × Int) := (List.range ps.length).map fun i => (ps.getD i (0, 0), (i : Int))
def DealtF (ps : List Pr) (F : List Nat) : Prop := F.length = ps.length ∧ ∀ (k : Nat) (q : Pr × Int), (sortJ (enumJ ps))[k]? = some q → F[q.2.toNat]? = (dealR ((sortJ (enumJ ps)).map (·.1)) [])[k]?
theorem enum_mem {ps : List Pr} {q : Pr × Int} (h : q ∈ sortJ (enumJ ps)) : ∃ i : Nat, i < ps.length ∧ q.2 = (i : Int) ∧ ps[i]? = some q.1 := by
  obtain ⟨i, hi, rfl⟩ := List.mem_map.mp ((sortJ_perm _).mem_iff.mp h)
  have hi := List.mem_range.mp hi
  exact ⟨i, hi, rfl, by simp [List.getD_eq_getElem?_getD, List.getElem?_eq_getElem hi]⟩
theorem enum_one {ps : List Pr} {j k : Nat} {p q : Pr × Int} (hj : (sortJ (enumJ ps))[j]? = some p) (hk : (sortJ (enumJ ps))[k]? = some q) (e : p.2 = q.2) : j = k := by
  have nd : ((sortJ (enumJ ps)).map (·.2)).Nodup := by
    refine ((sortJ_perm _).map _).nodup_iff.mpr ?_
    unfold enumJ
    rw [List.map_map]
    exact List.pairwise_map.mpr (List.nodup_range.imp fun {x y} h e => h (Int.ofNat.inj e))
  have lj : j < (sortJ (enumJ ps)).length := (List.getElem?_eq_some_iff.mp hj).1
  have lk : k < (sortJ (enumJ ps)).length := (List.getElem?_eq_some_iff.mp hk).1
  have a := (List.getElem?_eq_some_iff.mp hj).2
  have b := (List.getElem?_eq_some_iff.mp hk).2
  have no : ∀ {i j : Nat} (hi : i < (sortJ (enumJ ps)).length) (hj : j < (sortJ (enumJ ps)).length), i < j → ((sortJ (enumJ ps))[i]).2 ≠ ((sortJ (enumJ ps))[j]).2 := fun hi hj l => List.pairwise_iff_getElem.mp (List.pairwise_map.mp nd) _ _ hi hj l
  rcases Nat.lt_trichotomy j k with l | l | l
  · exact absurd (by rw [a, b]; exact e) (no lj lk l)
  · exact l
  · exact absurd (by rw [a, b]; exact e.symm) (no lk lj l)
theorem DealtF.rooms {ps : List Pr} {F : List Nat} (h : DealtF ps F) (ok : ∀ p ∈ ps, p.1 < p.2) : Rooms (endR ((sortJ (enumJ ps)).map (·.1)) []).length (ps.zip F) := dealt_rooms (sortJ_perm _) (sortJ_up _) ok h.1 h.2
theorem enum_len (ps : List Pr) : (sortJ (enumJ ps)).length = ps.length := by
  rw [(sortJ_perm _).length_eq]
  simp [enumJ]
theorem while_p {c : TT} {tb : TS} {D : Ends} {σ : L2.St} {H : Hp} (W : Nat → L2.St → Hp → Prop) (P : L2.St → Hp → Prop) {m0 : Nat} (h0 : W m0 σ H)
    (hs : ∀ m σ H, W m σ H → c σ H fun b H1 => if b = true then tb { D with nx := fun σ' H' => ∃ m', m' < m ∧ W m' σ' H', ct := fun σ' H' => ∃ m', m' < m ∧ W m' σ' H', bk := D.nx } σ H1 else P σ H1)
    (mono : ∀ σ H Q Q', (∀ b H1, Q b H1 → Q' b H1) → c σ H Q → c σ H Q') (fin : ∀ σ H, P σ H → D.nx σ H) : tWhile c tb D σ H :=
  while_m W h0 (fun m σ H w => mono _ _ _ _ (fun b H1 q => by
    cases b with
    | true => exact q
    | false => exact fin _ _ q) (hs m σ H w)) mono
theorem ixZ {n : Nat} {i : Int} (h0 : 0 ≤ i) (h1 : i < n) : ixN n i = some i.toNat := by
  unfold ixN
  rw [if_pos h0, if_pos h1]
def rmV (F : List Nat) : List V := F.map fun k => V.int (k : Nat)
def sp_dealt (K : PySem.W.Frag) : Sp := Sp1 fun x H Q E => ∃ (a : Addr) (xs : List V) (ps : List Pr), x = .ref a ∧ SqL K H a xs ∧ PrsAt H xs ps ∧ ps.length ≤ 1000 ∧ ∀ (p : Addr) (H' : Hp) (F : List Nat), Same H H' → Fr H p → H' p = some (.lst (rmV F)) → DealtF ps F → Q (.ref p) H'
theorem g_dealt {K : PySem.W.Frag} {a : Addr} {xs : List V} {ps : List Pr} {H : Hp} {Q : VK} {E : XK} (h : SqL K H a xs) (hp : PrsAt H xs ps) (l : ps.length ≤ 1000) (q : ∀ (p : Addr) (H' : Hp) (F : List Nat), Same H H' → Fr H p → H' p = some (.lst (rmV F)) → DealtF ps F → Q (.ref p) H') : sp_dealt K ([.ref a] ++ []) H Q E := ⟨_, rfl, a, xs, ps, rfl, h, hp, l, q⟩
def t_dealt (K : PySem.W.Frag) : TS :=
  (tSeq (tAsg (tLst tNil) (gName 1))
  (tSeq (tAsg (tLc (iList K (tVar 0)) (gName 2) tYes (tC (.int 0)) [2]) (gName 3))
  (tSeq (tFor (iList K (tCB (Y.rSortJ K) (tCons (tLc (iEnum K (tCons (tVar 0) tNil)) (gTup K 2 (gCons (gName 4) (gCons (gName 2) gNil))) tYes (tTup (tCons (tVar 2) (tCons (tVar 4) tNil))) [4, 2]) tNil))) (gTup K 2 (gCons (gName 2) (gCons (gName 4) gNil)))
  (tSeq (tAsg (tC (.int 0)) (gName 5))
  (tSeq (tWhile (tAnd (tTest (tOp rLt (tVar 5) (tCB (rLen K) (tCons (tVar 1) tNil)))) (tTest (tOp rGt (tOp (rIxL K) (tVar 1) (tVar 5)) (tOp (rIxT K) (tVar 2) (tC (.int 0))))))
  (tAsg (tOp rAdd (tVar 5) (tC (.int 1))) (gName 5)))
  (tSeq (tIfS (tTest (tOp rEq (tVar 5) (tCB (rLen K) (tCons (tVar 1) tNil))))
  (tDrop (tBM K "list" rAppend (tVar 1) (tCons (tC (.int 0)) tNil)))
  tNext)
  (tSeq (tAsg (tOp (rIxT K) (tVar 2) (tC (.int 1))) (gSub (tVar 1) (tVar 5) rSetL))
  (tAsg (tVar 5) (gSub (tVar 3) (tVar 4) rSetL)))))))
  (tRet (tVar 3)))))
theorem pure_dealt {K : PySem.W.Frag} {x : V} {H : Hp} {Q : VK} {E : XK} (h : sp_dealt K [x] H Q E) : t_dealt K { nx := fun _ H' => Q .non H', rt := Q } [some x, none, none, none, none, none] H := by
  obtain ⟨x, e, a, xs, ps, rfl, hS, hP, hl, q⟩ := h
  cases e
  unfold t_dealt
  have xl := Paired.length hP
  walk_at "ss"
  rename_i u hu
  refine lc_flt (f := fun _ => some (.int 0)) (Same.seq (same_new hu) hS) (by omega) ?_ ?_
  · rintro D i x N acc hD hi hx ha hN -
    walk_at "ss"
    exact lc_leaf ha hi (hN _ rfl)
  intro D hD
  have e0 : (xs.filterMap fun _ => some (V.int 0)) = rmV (List.replicate ps.length 0) := by
    rw [List.filterMap_eq_map' , rmV, ← xl, List.map_replicate]
    exact List.map_const' ..
  rw [e0]
  have nu : D ≠ u := by walk_at "ne"
  have sG : Same H (upd (upd H u (.lst [])) D (.lst (rmV (List.replicate ps.length 0)))) := by walk_at "sm"
  have gu : (upd (upd H u (.lst [])) D (.lst (rmV (List.replicate ps.length 0)))) u = some (.lst []) := by walk_at "at"
  have gD : (upd (upd H u (.lst [])) D (.lst (rmV (List.replicate ps.length 0)))) D = some (.lst (rmV (List.replicate ps.length 0))) := upd_same
  have fu : Fr H u := hu
  have fD : Fr H D := fr_new hD
  generalize upd (upd H u (.lst [])) D (.lst (rmV (List.replicate ps.length 0))) = G at sG gu gD ⊢
  clear hu hD
  have hS1 := Same.seq sG hS
  have hP1 := prs_same sG hP
  walk_at "ss"
  dsimp only [List.set]
  refine g_iEnum ?_
  walk_at "ss"
  refine ⟨a, xs, rfl, hS1, ?_⟩
  refine lc_r (walk_enum (K := K) (a := a) (xs := xs)) SjAt (fun _ _ _ _ e h => sj_tk e h) (fun i => (ps[i]?).map fun p => (p, (i : Int))) (by omega) (fun H' s => Same.seq s hS1) ?_ ?_
  · rintro D2 i x H1 H2 N hD2 hi s1 ⟨T, x1, x2, rfl, hT, rfl, h1, h2⟩ hN -
    replace hT : Fr H1 T := hT
    replace h2 : xs[i]? = some x2 := h2
    obtain rfl : x1 = .int (i : Nat) := (Option.some.inj h1).symm
    obtain ⟨p, hp, hx⟩ := Paired.getL hP1 h2
    have hx1 := pr_same s1 hx
    walk_at "ss"
    rename_i t2 ht2
    exact hN _ (p, (i : Int)) _ (by rw [hp]; rfl) (by walk_at "sm") ⟨_, _, rfl, upd_same, by walk_at "pr"⟩
  intro D2 H1 ys hD2 s1 h1 hJ
  have eJ : (List.range xs.length).filterMap (fun i : Nat => (ps[i]?).map fun p => (p, (i : Int))) = enumJ ps := by
    rw [xl]
    unfold enumJ
    have : ∀ l : List Nat, (∀ i ∈ l, i < ps.length) → l.filterMap (fun i : Nat => (ps[i]?).map fun p => (p, (i : Int))) = l.map fun i => (ps.getD i (0, 0), (i : Int)) := by
      intro l
      induction l with
      | nil => intro _; rfl
      | cons i l ih =>
        intro h
        have hi := h i List.mem_cons_self
        rw [List.filterMap_cons_some (b := (ps.getD i (0, 0), (i : Int))) (by simp [List.getD_eq_getElem?_getD, List.getElem?_eq_getElem hi]), List.map_cons, ih fun j hj => h j (List.mem_cons_of_mem _ hj)]
    exact this _ fun i hi => List.mem_range.mp hi
  rw [eJ] at hJ
  walk_at "ss"
  refine g_sortJ (SqL.of h1) hJ fun zs p4 hp4 hZ => ?_
  have s4 : Same G (upd H1 p4 (.lst zs)) := sm_new hp4 s1
  have h4 : (upd H1 p4 (.lst zs)) p4 = some (.lst zs) := upd_same
  have hZ4 := sjs_tk (tk_new (o := .lst zs) hp4) hZ
  have f4 : Fr G p4 := by walk_at "fr"
  generalize upd H1 p4 (.lst zs) = G2 at s4 h4 hZ4
  clear hp4 hZ hJ h1 hD2
  have n1 : p4 ≠ u := by walk_at "ne"
  have n2 : p4 ≠ D := by walk_at "ne"
  have zl : zs.length = ps.length := (Paired.length hZ4).trans (enum_len ps)
  have gu2 := s4 _ _ gu
  have gD2 := s4 _ _ gD
  clear hP1 hS1 s1 hS hP eJ e0
  have ul := enum_len ps
  obtain ⟨us, eus⟩ : ∃ us, us = sortJ (enumJ ps) := ⟨_, rfl⟩
  have F0 : DealtF ps = fun F => F.length = ps.length ∧ ∀ (k : Nat) (q : Pr × Int), us[k]? = some q → F[q.2.toNat]? = (dealR (us.map (·.1)) [])[k]? := by
    rw [eus]
    rfl
  have emem : ∀ q ∈ us, ∃ i : Nat, i < ps.length ∧ q.2 = (i : Int) ∧ ps[i]? = some q.1 := fun q hq => enum_mem (eus ▸ hq)
  have eone : ∀ {j k : Nat} {p q : Pr × Int}, us[j]? = some p → us[k]? = some q → p.2 = q.2 → j = k := fun hj hk e => enum_one (eus ▸ hj) (eus ▸ hk) e
  rw [F0] at q
  rw [← eus] at ul hZ4
  clear F0 eus
  walk_at "ss"
  refine for_list (K := K) (a := p4) (xs := zs) (D := { nx := tRet (tVar 3) { nx := fun _ H' => Q V.non H', rt := Q }, rt := Q }) (fun k σ H' => ∃ v2 v4 v5 F, σ = [some (.ref a), some (.ref u), v2, some (.ref D), v4, v5] ∧ Same H H' ∧ H' p4 = some (.lst zs) ∧ SjsAt H' zs us ∧ H' u = some (.lst ((endR ((us.take k).map (·.1)) []).map V.int)) ∧ H' D = some (.lst (rmV F)) ∧ F.length = ps.length ∧ ∀ (j : Nat) (q : Pr × Int), j < k → us[j]? = some q → F[q.2.toNat]? = (dealR (us.map (·.1)) [])[j]?)
    ?h0 (fun i σ H' _ h => by obtain ⟨_, _, _, _, _, _, h, _⟩ := h; exact SqL.of h) ?_ ?_
  case h0 => exact ⟨_, _, _, _, rfl, sG.trans s4, h4, hZ4, gu2, gD2, by simp, by simp⟩
  · clear gD2 gu2 hZ4 h4 s4 sG gu gD
    rintro k x σ H' hi ⟨v2, v4, v5, F, rfl, sm, h4, hZ, hu, hD, lF, fill⟩
    obtain ⟨q, hq, t, y, rfl, ht, hy⟩ := Paired.getL hZ hi
    obtain ⟨z, rfl, hz⟩ := hy
    obtain ⟨⟨c, g⟩, at_⟩ := q
    obtain ⟨i0, l0, rfl, -⟩ := emem _ (List.mem_of_getElem? hq)
    have lk : k < us.length := (List.getElem?_eq_some_iff.mp hq).1
    obtain ⟨d1, d2⟩ := dealR_at (us.map (·.1)) [] k (p := (c, g)) (by rw [List.getElem?_map, hq]; rfl)
    rw [← List.map_take] at d1 d2
    rw [← List.map_take] at d2
    have el := endR_len ((us.take k).map (·.1)) []
    rw [List.length_map, List.length_take, List.length_nil] at el
    generalize endR ((us.take k).map (·.1)) [] = U at *
    dsimp only at hz ht d1 d2
    walk_at "ss"
    dsimp only [List.set]
    refine while_p (fun m σ H9 => ∃ r : Nat, σ = [some (.ref a), some (.ref u), some (.ref z), some (.ref D), some (.int (i0 : Int)), some (.int (r : Int))] ∧ H9 = H' ∧ r ≤ U.length ∧ (∀ (j : Nat) (x : Int), U[j]? = some x → j < r → c < x) ∧ m = U.length - r)
      (fun σ H9 => σ = [some (.ref a), some (.ref u), some (.ref z), some (.ref D), some (.int (i0 : Int)), some (.int (freeR U c : Int))] ∧ H9 = H')
      ⟨0, rfl, rfl, Nat.zero_le _, by intro j x _ h; omega, rfl⟩ ?_ ?_ ?_
    · rintro m σ H9 ⟨r, rfl, rfl, rl, rs, rfl⟩
      walk_at "ss"
      rw [List.length_map]
      refine ite_d (fun lt => ?_) fun ge => ?_
      · have lt : r < U.length := by omega
        have hx := List.getElem?_eq_getElem lt
        have hat : atI (U.map V.int) (r : Int) = some (.int U[r]) := atI_nat (by rw [List.getElem?_map, hx]; rfl)
        walk_at "ss"
        refine ite_d (fun gt => ?_) fun le => ?_
        · walk_at "ss"
          refine ⟨U.length - (r + 1), by omega, r + 1, rfl, rfl, by omega, fun j x hj l => ?_, rfl⟩
          by_cases e : j = r
          · rw [e, hx] at hj
            have := Option.some.inj hj
            omega
          · exact rs j x hj (by omega)
        · rw [freeR_eq U c rs (.inr ⟨_, hx, by omega⟩)]
          exact ⟨rfl, rfl⟩
      · rw [freeR_eq U c rs (.inl (by omega))]
        exact ⟨rfl, rfl⟩
    · intro σ H Q Q' h q
      obtain ⟨v, e1, w, e2, p, xs, e3, e4, i, j, e5, e6, b, e7, r⟩ := q
      refine ⟨v, e1, w, e2, p, xs, e3, e4, i, j, e5, e6, b, e7, ?_⟩
      cases b with
      | false => exact h _ _ r
      | true =>
        obtain ⟨w1, a1, w2, a2, l1, xs1, n1, v1, b1, b2, b3, b4, w3, a3, l3, xs3, n3, v3, c1, c2, c3, c4, i5, j5, f1, f2, b5, f3, r⟩ := r
        exact ⟨w1, a1, w2, a2, l1, xs1, n1, v1, b1, b2, b3, b4, w3, a3, l3, xs3, n3, v3, c1, c2, c3, c4, i5, j5, f1, f2, b5, f3, h _ _ r⟩
    · rintro σ H9 ⟨rfl, rfl⟩
      dsimp only
      have fl := freeR_le U c
      obtain ⟨r, er⟩ : ∃ r, r = freeR U c := ⟨_, rfl⟩
      have ep : putR U c g = if r < U.length then U.set r g else U ++ [g] := by rw [er]; rfl
      rw [← er] at d1 fl ⊢
      rw [ep] at d2
      clear ep er
      with_reducible refine jn (P := fun σ H1 => ∃ W : List Int, σ = [some (.ref a), some (.ref u), some (.ref z), some (.ref D), some (.int (i0 : Int)), some (.int (r : Int))] ∧ Same H H1 ∧ H1 p4 = some (.lst zs) ∧ SjsAt H1 zs us ∧ H1 z = some (.tup [.int c, .int g]) ∧ H1 u = some (.lst (W.map V.int)) ∧ H1 D = some (.lst (rmV F)) ∧ r < W.length ∧ W.set r g = if r < U.length then U.set r g else U ++ [g]) ?_ fun N hN => ?_
      · clear sm h4 hZ hD hz ht hu
        rintro σ H1 ⟨W, rfl, sm, h4, hZ, hz, hu, hD, lr, eW⟩
        have lF2 : i0 < (rmV F).length := by unfold rmV; rw [List.length_map]; omega
        walk_at "ss"
        refine g_setL hu (ixZ (by omega) (by rw [List.length_map]; omega)) ?_
        have hD2 : (upd H1 u (.lst ((W.map V.int).set (Int.toNat r) (.int g)))) D = some (.lst (rmV F)) := at_ne nu hD
        walk_at "ss"
        refine g_setL hD2 (ixZ (by omega) (by omega)) ?_
        refine ⟨_, _, _, F.set i0 r, rfl, ?_, ?_, ?_, ?_, ?_, ?_, ?_⟩
        · exact sm_own fD (sm_own fu sm)
        · exact at_ne n2 (at_ne n1 h4)
        · exact sjs_tk ((tk_put hu).trans (tk_put hD2)) hZ
        · refine at_ne nu.symm ?_
          rw [upd_same, d2, ← eW, List.map_set]
          rfl
        · rw [upd_same]
          unfold rmV
          rw [List.map_set]
          rfl
        · rw [List.length_set, lF]
        · intro j q' hj hq'
          by_cases e : j = k
          · subst e
            rw [hq] at hq'
            cases hq'
            rw [d1]
            simp [List.getElem?_set_self (show i0 < F.length by omega)]
          · have ne : q'.2 ≠ (i0 : Int) := fun z => e (eone hq' hq z)
            obtain ⟨i1, -, e1, -⟩ := emem q' (List.mem_of_getElem? hq')
            rw [List.getElem?_set_ne (by omega)]
            exact fill j q' (by omega) hq'
      · walk_at "ss"
        rw [List.length_map, int_eq]
        refine ite_d (fun eq => ?_) fun ne => ?_
        · walk_at "ss"
          have er : r = U.length := by omega
          refine hN _ _ ⟨U ++ [0], rfl, sm_own fu sm, at_ne n1 h4, sjs_tk (tk_put hu) hZ, ?_, ?_, at_ne nu hD, by simp [er], by simp [er]⟩
          · refine at_ne (fun z => ?_) hz
            rw [z, hu] at hz
            cases hz
          · rw [upd_same, List.map_append]
            rfl
        · walk_at "ss"
          have l : r < U.length := by omega
          exact hN _ _ ⟨U, rfl, sm, h4, hZ, hz, hu, hD, l, by rw [if_pos l]⟩
  · rintro σ H' ⟨v2, v4, v5, F, rfl, sm, h4, hZ, hu, hD, lF, fill⟩
    walk_at "ss"
    exact q D H' F sm fD hD ⟨lF, fun j q' hq' => fill j q' (by rw [zl, ← ul]; exact (List.getElem?_eq_some_iff.mp hq').1) hq'⟩
/-! YIa: fields as targets, == [] of any list, sorted(d.items()) and list(zip(..)) of nothing. -/
open PySem PySem.Spec PyProof.Rows L2
/-- a field as one of several targets -/
def gFld (K : PySem.W.Frag) (to : TE) (f : Str) : TG := fun v σ H Q => to σ H fun x H1 => ∃ a C dx fs, x = .ref a ∧ H1 a = some (.ins C dx fs) ∧ Cls K C ∧ NoAttr K C f ∧ fs.length < 1000 ∧ Q σ (upd H1 a (.ins C dx (putF f v fs)))
theorem pg_fld {X : Cx} {o : Expr} {f : Str} {pos : Pos} {to : TE} (ho : PE X o to) : PG X (.Attribute o f pos) (gFld X.K to f) := by
  refine ⟨fun pins s σ H v u Q I r h => ?_⟩
  rw [assign_Attribute]
  refine wpAny_bind (wpAny_holding (thn (ho.run pins s σ H _ I h) fun ov s1 ⟨x, H1, I1, r1, a, C, dx, fs, ex, ea, c, n, l, q⟩ => ?_))
  subst ex
  obtain rfl : ov = Value.ref a := r1
  refine wpAny_bind (wpAny_standAt (wpAny_bind (wpAny_holding (setattr_ok I1 ea c n l r fun s2 I2 => ?_))))
  exact wpAny_release ⟨σ, _, I2, q⟩
/-- xs == [] -/
def rEqE (K : PySem.W.Frag) : R2 := fun x y H Q => ∃ (p q : Addr) (xs : List V), x = .ref p ∧ y = .ref q ∧ SqL K H p xs ∧ SqL K H q [] ∧ Q (.bl (decide (xs = []))) H
theorem op_eqE {X : Cx} (hu : X.A.units + 64 < cLine) : OpR X (compareOp .Eq) (rEqE X.K) := by
  intro pins s σ H x y v u Q I rx ry h
  obtain ⟨a, b, xs, rfl, rfl, ha, hb, q⟩ := h
  cases (show v = Value.ref a from rx)
  cases (show u = Value.ref b from ry)
  obtain ⟨us, r1, p1, _⟩ := I.list ha
  obtain ⟨ws, r2, p2, _⟩ := I.list hb
  cases r2
  by_cases z : xs = []
  · subst z
    cases r1
    have := SeqAt.RcAt.lists (A := X.A) (s := s) (e := fun _ => true) p1.isList p2.isList rfl (by omega) (fun j h1 _ => absurd h1 (Nat.not_lt_zero _))
    exact this X.prog X.w _ _ ⟨.bl true, H, I, rfl, by simpa using q⟩
  · have := SeqAt.RcAt.lists_lengths (A := X.A) (s := s) p1.isList p2.isList (by
      have l := r1.length
      have : 0 < xs.length := List.length_pos_iff.mpr z
      rw [bne_iff_ne]
      intro e
      have : us.length = 0 := by simpa using e
      omega) (by omega)
    rw [decide_eq_false z] at q
    exact this X.prog X.w _ _ ⟨.bl false, H, I, rfl, q⟩
/-- sorted(d.items()), d empty -/
def tSortItems0 (te : TE) : TE := fun σ H Q => te σ H fun x H1 => ∃ d, x = .ref d ∧ H1 d = some (.dK []) ∧ ∀ p, Fr H1 p → Q (.ref p) (upd H1 p (.lst []))
theorem pe_sortItems0 {X : Cx} {e : Expr} {te : TE} {p apos cpos pos : Pos} (hc : X.calm = true) (hg : Gl X "sorted") (hm : X.mg "sorted" = none) (he : PE X e te) (hbase : attributeBase e "items" X.env (eval e X.env) = eval e X.env := by rfl) (hline : (apos.endLine == cpos.line) = true := by rfl)
    (hs : starEach [.Call (.Attribute e "items" apos) [] [] cpos] X.env = (false, eval (.Call (.Attribute e "items" apos) [] [] cpos) X.env) :: starEach [] X.env := by rfl) :
    PE X (.Call (.Name "sorted" p) [.Call (.Attribute e "items" apos) [] [] cpos] [] pos) (tSortItems0 te) := by
  refine ⟨fun pins s σ H Q I hq => Call_ (ld_blt I hg hm boot_sorted (PyProof.Rows.callWith_builtin1 ?_ hs rfl))⟩
  rw [hs]
  show wpAny _ _ (spliced ((false, eval (.Call (.Attribute e "items" apos) [] [] cpos) X.env) :: backTo pos (starEach [] X.env))) _ _ s
  refine Calls.spliced_cons ?_
  refine wpAny_Call_method (T := "dict") (id := "dict.items") hbase rfl hline F.plainAttrs_dict F.slot_dict_items F.type_dict_items (thn (he.run pins s σ H _ I hq) fun u s1 ⟨x, H1, I1, rx, d, ex, hd, q⟩ => ?_)
  subst ex
  obtain rfl : u = Value.ref d := rx
  obtain ⟨hz, hs0, vs, kv, hdo⟩ := I1.hok d _ hd
  cases kv
  obtain ⟨ep, hat⟩ := hdo.dictAt
  have I2 : Inv X pins σ H1 { s1 with heap := s1.heap.push { cls := .type "dict_items", data := .fields #[.ref d] } } := I1.kept (t' := s1.toks) fun b ob q => Heap.get?_push_of_some _ q
  refine ⟨hdo.typeIs, hdo.mapOf.noDict, ?_⟩
  show wpAny _ _ (callWith cpos (.builtin "dict.items") [.ref d] [] []) _ X.xe s1
  refine method_meetsIn F.slot_dict_items F.entry_dict_items rfl (PySem.evalArgs_none ⟨rfl, hdo.typeIs, F.args_dict_items_1 _, _, meets_dict_items (mixKind X.prog X.w) d hs0, ⟨[], hdo⟩, ?_⟩)
  refine Calls.spliced_nil ?_
  refine Calls.call_function_entry kind_sorted plain_sorted entry_sorted (args_sorted1 _) ?_
  unfold Builtin.«sorted»
  refine wpAny_bind (m := checkCount "sorted" 1 1 _) (wpAny_pure ?_)
  refine wpAny_bind (PySem.W.kdx_collect (A := X.A.in1) (knd := mixKind X.prog X.w) (kvs := []) (ep := ep) (I1.ok.hd hc) ⟨_, Heap.get?_push_size _ rfl, rfl, rfl⟩ (hat.push _) (Nat.zero_le _) fun h' tk as hk hl hG => ?_)
  obtain rfl : as = [] := List.eq_nil_of_length_eq_zero hl
  have I3 : Inv X pins σ H1 { ({ s1 with heap := s1.heap.push { cls := .type "dict_items", data := .fields #[.ref d] } } : Shared) with heap := h', toks := tk } := I2.kept fun b o e => hk b o e
  have hoL : (h'.push (seqObj "list" ([] : List Value).toArray 0)).get? h'.objs.size = some (seqObj "list" ([] : List Value).toArray 0) := Heap.get?_push_size _ rfl
  refine wpAny_bind (wpAny_newList (wpAny_bind (wpAny_holding (wpAny_call_entry slot_list_sort ⟨_, hoL, rfl⟩ entry_list_sort
    (SrtO.list_sort_ord SrtO.swo_int hoL (Nat.zero_le _) (fun h2 => absurd h2 (by decide)) fun out h1 h2 => ⟨_, rfl, ?_⟩) (args_list_sort _)))) (Nat.zero_le _))
  obtain ⟨c, hcs⟩ := PyProof.Rows.sortedHeap_at (vs := []) (out := out.toArray) hoL
  have eo : out = [] := List.eq_nil_of_length_eq_zero (by have := h2.len; simpa using this)
  subst eo
  refine wpAny_pure ⟨_, rfl, .ref h'.objs.size, upd H1 h'.objs.size (.lst []), I3.laid (t' := tk) (fun b u e => ?_) (Nat.le_refl _) ⟨Nat.zero_le _, [], c, .nil, hcs⟩, rfl, q _ (I3.hok.fresh (Nat.le_refl _))⟩
  have lt := Heap.lt_size e
  show (sortedHeap (h'.push (seqObj "list" ([] : List Value).toArray 0)) h'.objs.size [] _).get? b = some u
  rw [PyProof.Rows.sortedHeap_old (Nat.ne_of_lt lt) (by rw [size_push']; exact Nat.lt_succ_of_lt lt)]
  exact Heap.get?_push_of_some _ e
theorem zip_nolen : typeLookup (.type "zip") "__len__" = pure none := by rw [typeLookup_type, builtinLookup_eq_fast]; kernel_rfl
theorem zip_nohint : typeLookup (.type "zip") "__length_hint__" = pure none := by rw [typeLookup_type, builtinLookup_eq_fast]; kernel_rfl
section
variable {P : Program} {w : World} {A : Around} {E : Value → Shared → Prop} {s : Shared}
/-- a zip of a list without items gives nothing -/
theorem walks_zip0 (hh : A.handled = none) {z TI TO i1 i2 l1 l2 : Addr} (D : ZipApart z TI TO i1 i2 l1 l2) (ys : Array Value) :
    WalksS P w A z [z, TI, TO, i1, i2, l1, l2] [z, TO, i1, i2] (fun a b => b = a) 0 (fun _ _ => False)
      (fun _ s => IsZip s.heap z TI TO .none ∧ IsPair s.heap TI (.ref i1) (.ref i2) ∧ (∃ a b, IsPair s.heap TO a b) ∧ s.heap.IsListIter i1 l1 0 ∧ s.heap.IsListIter i2 l2 0 ∧ s.heap.IsList l1 #[] ∧ s.heap.IsList l2 ys) where
  sub := fun c hc => by simp at hc ⊢; rcases hc with rfl | rfl | rfl | rfl <;> simp
  grefl := fun _ => rfl
  gtrans := fun _ _ _ a b => b.trans a
  frame := fun i s h' tk st _ k => by
    obtain ⟨hz, hTI, ⟨a, b, hTO⟩, h1, h2, e1, e2⟩ := st
    exact ⟨k z (by simp) _ hz, k TI (by simp) _ hTI, ⟨a, b, k TO (by simp) _ hTO⟩, h1.at fun o e => k i1 (by simp) o e, h2.at fun o e => k i2 (by simp) o e, e1.at fun o e => k l1 (by simp) o e, e2.at fun o e => k l2 (by simp) o e⟩
  item := fun i s Q E hi => absurd hi (Nat.not_lt_zero _)
  done := fun s Q E st q => by
    obtain ⟨hz, hTI, ⟨a, b, hTO⟩, h1, h2, e1, e2⟩ := st
    exact wpAny_pyNext_zip_end hh D hz hTI hTO h1 h2 e1 e2 (.inl rfl) fun h' k => q _ ⟨fun c o hc e => k c o (fun z => hc (by simp [z])) (fun z => hc (by simp [z])) (fun z => hc (by simp [z])) (fun z => hc (by simp [z])) e, rfl, rfl, rfl, Nat.le_refl _⟩
  self := fun i s Q E st q => wpAny_pyIter_zip st.1 q
theorem extend_zip {I : Addr} {fp wr : List Addr} {G : Array GenState → Array GenState → Prop} {n : Nat} {Pv : Nat → Value → Prop} {St : Nat → Shared → Prop} {R : Result → Shared → Prop}
    (W : WalksS P w A.in1 I fp wr G n Pv St) (hT : ∀ i s, St i s → s.TypeIs (.ref I) "zip") (S : Addr) (res : Value) (c0 : Nat) (st : St 0 s) (away : S ∉ fp) (hI : I ∈ fp) (hS : s.heap.get? S = some { cls := .type "list", data := .seq #[] c0 })
    (fin : ∀ s' acc c, Moved (S :: wr) G s s' → s'.heap.get? S = some { cls := .type "list", dict := none, data := .seq acc c, slots := #[] } → ItemsOf Pv acc n → R (.ok (.ret res)) s') (hn : n ≤ sizeLine) :
    wpAny (model P w) A.in1 (Builtin.List.listExtendWith (.ref S) (.ref I) res)
      (fun fin s' => match fin with | .done f => R (.ok f) s' | .again c' => c'.quiet = true ∧ codeAny (model P w) A c' R s') (fun e s' => R (.error e) s') s := by
  have ne : S ≠ I := fun e => away (e ▸ hI)
  have one := sizeLine_eq
  unfold Builtin.List.listExtendWith
  refine wpAny_bind (wpAny_typeOf (hT 0 _ st) ?_)
  have n1 : Builtin.List.listSameRef (.ref S) (.ref I) = false := by simp [Builtin.List.listSameRef, ne]
  have n2 : (Value.type "zip" == Value.type "list") = false := by decide
  have n3 : (Value.type "zip" == Value.type "tuple") = false := by decide
  simp only [n1, n2, n3, Bool.or_false, Bool.false_eq_true, if_false]
  refine wpAny_bind (W.self 0 _ _ _ st (wpAny_bind (wpAny_holding ?_)))
  unfold Builtin.List.listLengthHint
  refine wpAny_bind (wpAny_specialOf (hT 0 _ st) zip_nolen ?_)
  show wpAny _ A.in1 (specialOf (Value.ref I) (Str.ofString "__length_hint__") >>= _) _ _ _
  refine wpAny_bind (wpAny_specialOf (hT 0 _ st) zip_nohint (wpAny_pure ?_))
  show wpAny _ A.in1 (rule "list.extend.makes-room" >>= fun _ => Builtin.List.listTouch (.ref S) >>= fun _ => again (.builtin "list.extend.loop" ⟨[.ref S, .ref I, res], []⟩)) _ _ _
  refine wpAny_bind (wpAny_rule (wpAny_bind ?_))
  show wpAny _ A.in1 (updateSeq S (·.push .none) >>= fun _ => updateSeq S (·.pop)) _ _ _
  refine wpAny_bind (wpAny_updateSeq hS rfl ?_)
  have S2 := Heap.get?_update_self (Obj.mapSeq (·.push Value.none)) hS rfl
  refine wpAny_updateSeq (hz := by seq_fits) S2 rfl ?_
  have S3 := Heap.get?_update_self (Obj.mapSeq (·.pop)) S2 rfl
  have oth : ∀ b o, b ≠ S → s.heap.get? b = some o → ((s.heap.update S (Obj.mapSeq (·.push Value.none))).update S (Obj.mapSeq (·.pop))).get? b = some o :=
    fun b o hb e => (Heap.get?_update_other _ _ (Ne.symm hb)).trans ((Heap.get?_update_other _ _ (Ne.symm hb)).trans e)
  refine wpAny_pure ⟨plainId_quiet F.plain_extend_loop _, codeAny_extend_loopS W hn _ away _ n 0 _ _ _ rfl (Nat.zero_le _) (W.frame 0 s _ s.toks st (Nat.le_refl _) fun b hb o e => oth b o (fun z => away (z ▸ hb)) e) S3 (ItemsOf.nil Pv) fun s' acc c m hS' it => ?_⟩
  exact fin s' acc c (Moved.trans W.gtrans ((Moved.refl W.grefl).then_heap (Nat.le_refl _) fun b o hb e => oth b o (fun z => hb (z ▸ List.mem_cons_self)) e) m) hS' it
theorem list_of_zip {I : Addr} {fp wr : List Addr} {G : Array GenState → Array GenState → Prop} {n : Nat} {Pv : Nat → Value → Prop} {St : Nat → Shared → Prop} {Q : Value → Shared → Prop}
    (W : WalksS P w A.in1.in1 I fp wr G n Pv St) (hT : ∀ i s, St i s → s.TypeIs (.ref I) "zip") (st : St 0 s) (low : ∀ b ∈ fp, b < s.heap.objs.size) (hI : I ∈ fp) (hn : n ≤ sizeLine)
    (q : ∀ s' acc c, Moved (s.heap.objs.size :: wr) G { s with heap := s.heap.push { cls := .type "list", data := .seq #[] } } s' → s'.heap.get? s.heap.objs.size = some { cls := .type "list", dict := none, data := .seq acc c, slots := #[] } → ItemsOf Pv acc n → Q (.ref s.heap.objs.size) s') :
    wpAny (model P w) A (call (.type "list") [.ref I]) Q E s := by
  have away : s.heap.objs.size ∉ fp := fun z => Nat.lt_irrefl _ (low _ z)
  refine callType_codes (Q₁ := fun v s1 => v = .ref s.heap.objs.size ∧ s1 = { s with heap := s.heap.push { cls := .type "list", data := .seq #[] } }) PySem.F.called_list (PySem.F.typeCall_list_1 _) PySem.F.entry_list_init (code_list_new _ ⟨rfl, rfl⟩) fun v s1 h1 => ?_
  obtain ⟨rfl, rfl⟩ := h1
  have hS : (s.heap.push { cls := .type "list", data := .seq #[] }).get? s.heap.objs.size = some { cls := .type "list", data := .seq #[] } := Heap.get?_push_size _ rfl
  refine ⟨⟨_, hS, rfl⟩, PySem.F.args_list_init_2 _ _, ?_⟩
  show wpAny _ A.in1.in1 (do let old ← Builtin.List.listItems (.ref s.heap.objs.size); Builtin.List.listUpdate (.ref s.heap.objs.size) (fun _ => #[]); letGo old.toList.reverse; Builtin.List.listExtendWith (.ref s.heap.objs.size) (.ref I) .none) _ _ _
  refine wpAny_bind ?_
  unfold Builtin.List.listItems
  refine wpAny_bind (wpAny_seqItems hS rfl (wpAny_pure ?_))
  show wpAny _ A.in1.in1 (updateSeq s.heap.objs.size (fun _ => #[]) >>= fun _ => letGo (#[] : Array Value).toList.reverse >>= fun _ => Builtin.List.listExtendWith (.ref s.heap.objs.size) (.ref I) .none) _ _ _
  refine wpAny_bind (wpAny_updateSeq hS rfl ?_)
  have S2 := Heap.get?_update_self (Obj.mapSeq (fun _ => (#[] : Array Value))) hS rfl
  have oth : ∀ b o, b ≠ s.heap.objs.size → (s.heap.push { cls := .type "list", data := .seq #[] }).get? b = some o → ((s.heap.push { cls := .type "list", data := .seq #[] }).update s.heap.objs.size (Obj.mapSeq (fun _ => (#[] : Array Value)))).get? b = some o :=
    fun b o hb e => (Heap.get?_update_other _ _ (Ne.symm hb)).trans e
  refine wpAny_bind (wpAny_letGo ?_)
  refine extend_zip (hn := hn) W hT s.heap.objs.size .none _ (W.frame 0 s _ s.toks st (Nat.le_refl _) fun b hb o e => oth b o (fun z => away (z ▸ hb)) (Heap.get?_push_of_some _ e)) away hI S2 fun s' acc c m hS' it => ?_
  exact ⟨rfl, q s' acc c (Moved.trans W.gtrans ((Moved.refl W.grefl).then_heap (Nat.le_refl _) fun b o hb e => oth b o (fun z => hb (z ▸ List.mem_cons_self)) e) m) hS' it⟩
end
/-- list(zip(xs, ys)), xs without items -/
def tListZip0 (K : PySem.W.Frag) (ta : TA) : TE := fun σ H Q => ta σ H fun vs H1 => ∃ a b ys, vs = [.ref a, .ref b] ∧ SqL K H1 a [] ∧ SqL K H1 b ys ∧ ∀ p, Fr H1 p → Q (.ref p) (upd H1 p (.lst []))
theorem pe_listZip0 {X : Cx} {e e2 : Expr} {ta : TA} {p p2 q pos : Pos} (hc : X.calm = true) (hg : Gl X "list") (hm : X.mg "list" = none) (hg2 : Gl X "zip") (hm2 : X.mg "zip" = none) (ha : PA X [e, e2] ta)
    (hs : starEach [e, e2] X.env = (false, eval e X.env) :: starEach [e2] X.env := by rfl) (hpl : (backTo q (starEach [e2] X.env)).any (·.1) = false := by rfl)
    (ht : starEach [.Call (.Name "zip" p2) [e, e2] [] q] X.env = (false, eval (.Call (.Name "zip" p2) [e, e2] [] q) X.env) :: starEach [] X.env := by rfl) :
    PE X (.Call (.Name "list" p) [.Call (.Name "zip" p2) [e, e2] [] q] [] pos) (tListZip0 X.K ta) := by
  refine ⟨fun pins s σ H Q I h => Call_ (ld_blt I hg hm PyProof.Rows.boot_list (PyProof.Rows.callWith_type1 (PyProof.Rows.args_cons ?_ ht) ht rfl))⟩
  refine Call_ (ld_blt I hg2 hm2 PyProof.Rows.boot_zip (PyProof.Rows.callWith_type1 (thn (ha.run q pins s σ H _ I h) fun us s1 ⟨vs, H1, I1, r1, q1⟩ => ?_) hs hpl))
  obtain ⟨a, b, ys, rfl, hqx, hqy, q1⟩ := q1
  cases r1 with
  | cons r rr =>
    cases rr with
    | cons r' rr =>
      cases rr
      cases r
      cases r'
      obtain ⟨its, rv, p1, _⟩ := I1.list hqx
      cases rv
      obtain ⟨its2, rv2, p2, _⟩ := I1.list hqy
      have la : a < s1.heap.objs.size := p1.lt
      have lb : b < s1.heap.objs.size := p2.lt
      refine call_zip_2 p1.isList p2.isList fun h' hz hTI hTO h1 h2 hsz hk => PyProof.Rows.args_nil ?_
      have I2 : Inv X pins σ H1 { s1 with heap := h' } := I1.kept (t' := s1.toks) hk
      refine list_of_zip (s := { s1 with heap := h' }) (walks_zip0 (A := X.A.in1.in1) (by simp [I1.ok.hd hc]) (PySem.W.ktu_apart s1.heap.objs.size a b la lb) its2.toArray) (fun i s st => ⟨_, st.1, rfl⟩) ⟨hz, hTI, ⟨_, _, hTO⟩, h1, h2, p1.isList.at fun o e => hk _ o e, p2.isList.at fun o e => hk _ o e⟩ (fun c hcm => ?_) (by simp) (Nat.zero_le _) fun s' acc c m hS it => ?_
      · show c < h'.objs.size
        rw [hsz]
        have hcm : c = s1.heap.objs.size + 4 ∨ c = s1.heap.objs.size + 2 ∨ c = s1.heap.objs.size + 3 ∨ c = s1.heap.objs.size ∨ c = s1.heap.objs.size + 1 ∨ c = a ∨ c = b := by simpa using hcm
        rcases hcm with z | z | z | z | z | z | z
        · rw [z]; show (_ : Nat) < _; omega
        · rw [z]; show (_ : Nat) < _; omega
        · rw [z]; show (_ : Nat) < _; omega
        · rw [z]; show (_ : Nat) < _; omega
        · rw [z]; show (_ : Nat) < _; omega
        · rw [z]; exact Nat.lt_of_lt_of_le la (Nat.le_add_right _ _)
        · rw [z]; exact Nat.lt_of_lt_of_le lb (Nat.le_add_right _ _)
      · have ea : acc = #[] := Array.eq_empty_of_size_eq_zero it.1
        subst ea
        obtain ⟨h2', g2, d2, tk2, os2⟩ := s'
        cases (show g2 = s1.gens from m.gens)
        cases (show d2 = s1.drawn from m.drawn)
        cases (show os2 = s1.os from m.os)
        refine ⟨.ref h'.objs.size, upd H1 h'.objs.size (.lst []), I1.laid (a := h'.objs.size) (t' := tk2) (fun b' o e => ?_) (by rw [hsz]; omega) ⟨Nat.zero_le _, [], c, .nil, hS⟩, rfl, q1 _ (I2.hok.fresh (Nat.le_refl _))⟩
        have l' : (b' : Nat) < s1.heap.objs.size := Heap.lt_size e
        refine m.heap b' o (fun z => ?_) (Heap.get?_push_of_some _ (hk _ _ e))
        have z : b' = h'.objs.size ∨ b' = s1.heap.objs.size + 4 ∨ b' = s1.heap.objs.size + 3 ∨ b' = s1.heap.objs.size ∨ b' = s1.heap.objs.size + 1 := by simpa using z
        rw [hsz] at z
        rcases z with z | z | z | z | z <;> (rw [z] at l'; revert l'; show ¬ (_ : Nat) < _; omega)
/-! YNa: an inn in the heap (no stay taken), its state. -/
open PySem PySem.Spec PyProof.Rows L2
/-- what may change: lists, dicts, inns -/
def MutO (o : HO) : Prop := (∃ xs, o = .lst xs) ∨ (∃ kvs, o = .dK kvs) ∨ ∃ C dx i fs, o = .ins C dx (("many", i) :: fs)
def Muts (H : Hp) (L : List Addr) : Prop := ∀ m ∈ L, ∀ o, H m = some o → MutO o
theorem muts_nil {H : Hp} : Muts H [] := fun m hm => nomatch hm
theorem muts_tape {H : Hp} {t b s : Addr} (T : Tape H t b s) : Muts H [t, b] := fun m hm o e => by
  obtain ⟨rfl, rfl, x, y, h, -⟩ := T
  have : m = t := by simpa using hm
  rw [this, h] at e
  cases e
  exact .inl ⟨_, rfl⟩
theorem muts_one {H : Hp} {p : Addr} {xs : List V} (h : H p = some (.lst xs)) : Muts H [p] := fun m hm o e => by
  rw [List.mem_singleton.mp hm, h] at e
  cases e
  exact .inl ⟨_, rfl⟩
theorem mut_tup {ys : List V} (h : MutO (.tup ys)) : False := by
  rcases h with ⟨_, e⟩ | ⟨_, e⟩ | ⟨_, _, _, _, e⟩ <;> cases e
theorem mut_ins {C dx : Addr} {f : Str} {i : V} {fs : List (Str × V)} (n : f ≠ "many") (h : MutO (.ins C dx ((f, i) :: fs))) : False := by
  rcases h with ⟨_, e⟩ | ⟨_, e⟩ | ⟨_, _, _, _, e⟩
  · cases e
  · cases e
  · injection e with _ _ e
    injection e with e _
    exact n (Prod.mk.inj e).1
theorem tk_mut {H H' : Hp} {L : List Addr} (k : Kp L H H') (m : Muts H L) : Tk H H' := fun a ys e => k _ _ e fun h => mut_tup (m a h _ e)
theorem rule_mut {K : PySem.W.Frag} {H H' : Hp} {L : List Addr} {v : V} {r : RuleD} (k : Kp L H H') (m : Muts H L) (h : RuleAt K H v r) : RuleAt K H' v r := by
  obtain ⟨a, dx, wv, rfl, h, q⟩ := h
  exact ⟨a, dx, wv, rfl, k _ _ h fun z => mut_ins (by decide) (m a z _ h), q.tk (tk_mut k m)⟩
theorem bk_mut {K : PySem.W.Frag} {H H' : Hp} {L F : List Addr} {v : V} {rs : List RuleD} (k : Kp L H H') (m : Muts H L) (n : ∀ p ∈ F, p ∉ L) (h : BookAt K H F v rs) : BookAt K H' F v rs := by
  obtain ⟨a, dx, lk, nd, kvs, nw, rfl, rfl, B⟩ := h
  obtain ⟨ks, h1, h2⟩ := B.kept
  refine ⟨a, dx, lk, nd, kvs, nw, rfl, rfl, k _ _ B.obj fun z => mut_ins (by decide) (m a z _ B.obj), ⟨ks, k _ _ h1 (n _ (by simp [BookF])), Paired.mapP h2 fun _ _ q => rule_mut k m q⟩, k _ _ B.dic (n _ (by simp [BookF])), B.small, B.key, fun w p hp => ?_, B.none', B.inj, B.ne⟩
  obtain ⟨xs, h3, h4⟩ := B.here w p hp
  exact ⟨xs, k _ _ h3 (n _ (bookF_mem hp)), Paired.mapP h4 fun _ _ q => rule_mut k m q⟩
/-! ### shelves -/
abbrev Shf := List (Str × List RuleD)
structure ShOk (sh : Shf) : Prop where
  nd : (sh.map (·.1)).Nodup
  len : ∀ e ∈ sh, e.2.length ≤ 24
  good : ∀ e ∈ sh, ∀ r ∈ e.2, RuleD.good r
  few : sh.length ≤ 10
def ShAt (K : PySem.W.Frag) (H : Hp) (W : List Addr) (kvs : List (Key × V)) (sh : Shf) : Prop := Paired (fun kv e => kv.1 = .inr e.1 ∧ ∃ F, BookAt K H F kv.2 e.2 ∧ ∀ p ∈ F, p ∈ W) kvs sh
theorem ShAt.mut {K : PySem.W.Frag} {H H' : Hp} {L W : List Addr} {kvs : List (Key × V)} {sh : Shf} (k : Kp L H H') (m : Muts H L) (n : ∀ p ∈ W, p ∉ L) (h : ShAt K H W kvs sh) : ShAt K H' W kvs sh :=
  Paired.mapP h fun _ _ ⟨e, F, b, f⟩ => ⟨e, F, bk_mut k m (fun p hp => n p (f p hp)) b, f⟩
theorem ShAt.wide {K : PySem.W.Frag} {H : Hp} {W W' : List Addr} {kvs : List (Key × V)} {sh : Shf} (w : ∀ p ∈ W, p ∈ W') (h : ShAt K H W kvs sh) : ShAt K H W' kvs sh :=
  Paired.mapP h fun _ _ ⟨e, F, b, f⟩ => ⟨e, F, b, fun p hp => w p (f p hp)⟩
def lookS (sh : Shf) (n : Str) : Option (List RuleD) := (sh.find? fun e => decide (e.1 = n)).map (·.2)
def putS (sh : Shf) (n : Str) (rs : List RuleD) : Shf := if (sh.any fun e => decide (e.1 = n)) = true then sh.map (fun e => if e.1 = n then (e.1, rs) else e) else sh ++ [(n, rs)]
theorem sh_get {K : PySem.W.Frag} {H : Hp} {W : List Addr} : ∀ {kvs : List (Key × V)} {sh : Shf} (n : Str), ShAt K H W kvs sh → (lookS sh n = none ∧ valV kvs (.inr n) = none) ∨ ∃ rs v F, lookS sh n = some rs ∧ (n, rs) ∈ sh ∧ valV kvs (.inr n) = some v ∧ BookAt K H F v rs ∧ ∀ p ∈ F, p ∈ W
  | _, _, n, .nil => .inl ⟨rfl, rfl⟩
  | (k, v) :: kvs, (m, rs) :: sh, n, .cons ⟨e, F, b, f⟩ t => by
    have e : k = .inr m := e
    subst e
    by_cases z : m = n
    · subst z
      exact .inr ⟨rs, v, F, by simp [lookS, List.find?_cons], List.mem_cons_self, valV_pos rfl, b, f⟩
    · have z2 : ¬ ((.inr m : Key) = .inr n) := fun e => z (Sum.inr.inj e)
      have e1 : lookS ((m, rs) :: sh) n = lookS sh n := by simp [lookS, List.find?_cons, z]
      rw [valV_neg (p := ((.inr m : Key), v)) z2, e1]
      rcases sh_get (K := K) (H := H) (W := W) n t with h | ⟨rs', v', F', h1, hm, h2⟩
      · exact .inl h
      · exact .inr ⟨rs', v', F', h1, List.mem_cons_of_mem _ hm, h2⟩
theorem sh_any {K : PySem.W.Frag} {H : Hp} {W : List Addr} : ∀ {kvs : List (Key × V)} {sh : Shf} (n : Str), ShAt K H W kvs sh → (kvs.any fun kv => decide (kv.1 = (.inr n : Key))) = (sh.any fun e => decide (e.1 = n))
  | _, _, n, .nil => rfl
  | (k, v) :: kvs, (m, rs) :: sh, n, .cons ⟨e, _⟩ t => by
    have e : k = .inr m := e
    subst e
    rw [List.any_cons, List.any_cons, sh_any n t]
    congr 1
    by_cases z : m = n
    · simp [z]
    · have z2 : ¬ ((.inr m : Key) = .inr n) := fun e => z (Sum.inr.inj e)
      simp [z, z2]
theorem sh_map {K : PySem.W.Frag} {H : Hp} {W F : List Addr} {v : V} {rs : List RuleD} (b : BookAt K H F v rs) (f : ∀ p ∈ F, p ∈ W) : ∀ {kvs : List (Key × V)} {sh : Shf} (n : Str), ShAt K H W kvs sh → ShAt K H W (kvs.map fun kv => if kv.1 = (.inr n : Key) then (kv.1, v) else kv) (sh.map fun e => if e.1 = n then (e.1, rs) else e)
  | _, _, n, .nil => .nil
  | (k, u) :: kvs, (m, us) :: sh, n, .cons ⟨e, g⟩ t => by
    have e : k = .inr m := e
    subst e
    refine .cons ?_ (sh_map b f n t)
    by_cases z : m = n
    · subst z
      simp only [if_true]
      exact ⟨trivial, F, b, f⟩
    · have z2 : ¬ ((.inr m : Key) = .inr n) := fun e => z (Sum.inr.inj e)
      simp only [z, z2, if_false]
      exact ⟨trivial, g⟩
theorem sh_put {K : PySem.W.Frag} {H : Hp} {W F : List Addr} {v : V} {rs : List RuleD} {kvs : List (Key × V)} {sh : Shf} (b : BookAt K H F v rs) (f : ∀ p ∈ F, p ∈ W) (n : Str) (h : ShAt K H W kvs sh) : ShAt K H W (putK kvs (.inr n) v) (putS sh n rs) := by
  unfold putK putS
  rw [sh_any n h]
  split
  · exact sh_map b f n h
  · exact Paired.app h (.cons ⟨rfl, F, b, f⟩ .nil)
theorem sh_len {K : PySem.W.Frag} {H : Hp} {W : List Addr} {kvs : List (Key × V)} {sh : Shf} (h : ShAt K H W kvs sh) : kvs.length = sh.length := Paired.length h
/-! ### the inn -/
/-- past deeds: the shelf as it was, no stay, no number given -/
def PastAt (K : PySem.W.Frag) (H : Hp) (W : List Addr) (x : Addr × Addr × Addr) (sh : Shf) : Prop := H x.1 = some (.tup [.ref x.2.1, .ref x.2.2, .int 0]) ∧ (∃ kvs, H x.2.1 = some (.dK kvs) ∧ ShAt K H W kvs sh) ∧ H x.2.2 = some (.dK [])
abbrev innF (a s t p : Addr) (ps : List (Addr × Addr × Addr)) : List Addr := a :: s :: t :: p :: ps.flatMap fun x => [x.2.1, x.2.2]
abbrev innO (K : PySem.W.Frag) (dx s t p : Addr) (m : Int) : HO := .ins (He.ga K "Inn") dx [("many", .int m), ("shelf", .ref s), ("taken", .ref t), ("coming", .int 0), ("past", .ref p)]
structure InnIn (K : PySem.W.Frag) (H : Hp) (W : List Addr) (a dx s t p : Addr) (ps : List (Addr × Addr × Addr)) (m : Int) (sh : Shf) (pa : List Shf) : Prop where
  obj : H a = some (innO K dx s t p m)
  shelf : ∃ kvs, H s = some (.dK kvs) ∧ ShAt K H W kvs sh
  taken : H t = some (.dK [])
  past : H p = some (.lst (ps.map fun x => .ref x.1))
  pas : Paired (PastAt K H W) ps pa
  nd : (innF a s t p ps).Nodup
  off : ∀ x ∈ W, x ∉ innF a s t p ps
  known : ∀ x ∈ W, ∃ o, H x = some o
  ok : ShOk sh
  oks : ∀ u ∈ pa, ShOk u
def InnAt (K : PySem.W.Frag) (H : Hp) (M W : List Addr) (v : V) (m : Int) (sh : Shf) (pa : List Shf) : Prop := ∃ a dx s t p ps, v = .ref a ∧ M = innF a s t p ps ∧ InnIn K H W a dx s t p ps m sh pa
theorem past_mem {K : PySem.W.Frag} {H : Hp} {W : List Addr} : ∀ {ps : List (Addr × Addr × Addr)} {pa : List Shf}, Paired (PastAt K H W) ps pa → ∀ y ∈ ps.flatMap (fun x => [x.2.1, x.2.2]), ∃ kvs, H y = some (.dK kvs)
  | _, _, .nil, y, hy => by simp at hy
  | x :: ps, u :: pa, .cons ⟨_, ⟨kvs, h1, _⟩, h2⟩ t, y, hy => by
    rw [List.flatMap_cons] at hy
    rcases List.mem_append.mp hy with hy | hy
    · simp at hy
      rcases hy with rfl | rfl
      · exact ⟨_, h1⟩
      · exact ⟨_, h2⟩
    · exact past_mem t y hy
theorem InnIn.mem {K : PySem.W.Frag} {H : Hp} {W : List Addr} {a dx s t p : Addr} {ps : List (Addr × Addr × Addr)} {m : Int} {sh : Shf} {pa : List Shf} (I : InnIn K H W a dx s t p ps m sh pa) : ∀ x ∈ innF a s t p ps, ∃ o, H x = some o ∧ MutO o := fun x hx => by
  rcases List.mem_cons.mp hx with rfl | hx
  · exact ⟨_, I.obj, .inr (.inr ⟨_, _, _, _, rfl⟩)⟩
  rcases List.mem_cons.mp hx with rfl | hx
  · obtain ⟨kvs, h, -⟩ := I.shelf
    exact ⟨_, h, .inr (.inl ⟨_, rfl⟩)⟩
  rcases List.mem_cons.mp hx with rfl | hx
  · exact ⟨_, I.taken, .inr (.inl ⟨_, rfl⟩)⟩
  rcases List.mem_cons.mp hx with rfl | hx
  · exact ⟨_, I.past, .inl ⟨_, rfl⟩⟩
  · obtain ⟨kvs, h⟩ := past_mem I.pas x hx
    exact ⟨_, h, .inr (.inl ⟨_, rfl⟩)⟩
theorem InnAt.muts {K : PySem.W.Frag} {H : Hp} {M W : List Addr} {v : V} {m : Int} {sh : Shf} {pa : List Shf} (I : InnAt K H M W v m sh pa) : Muts H M := by
  obtain ⟨a, dx, s, t, p, ps, rfl, rfl, I⟩ := I
  intro x hx o e
  obtain ⟨o', e', h⟩ := I.mem x hx
  rw [e] at e'
  cases e'
  exact h
theorem InnAt.known {K : PySem.W.Frag} {H : Hp} {M W : List Addr} {v : V} {m : Int} {sh : Shf} {pa : List Shf} (I : InnAt K H M W v m sh pa) : ∀ x ∈ M ++ W, ∃ o, H x = some o := by
  obtain ⟨a, dx, s, t, p, ps, rfl, rfl, I⟩ := I
  intro x hx
  rcases List.mem_append.mp hx with hx | hx
  · obtain ⟨o, e, -⟩ := I.mem x hx
    exact ⟨o, e⟩
  · exact I.known x hx
theorem pas_mut {K : PySem.W.Frag} {H H' : Hp} {L W : List Addr} (k : Kp L H H') (mu : Muts H L) (n : ∀ x ∈ W, x ∉ L) : ∀ {ps : List (Addr × Addr × Addr)} {pa : List Shf}, (∀ x ∈ ps.flatMap (fun x => [x.2.1, x.2.2]), x ∉ L) → Paired (PastAt K H W) ps pa → Paired (PastAt K H' W) ps pa
  | _, _, _, .nil => .nil
  | x :: ps, u :: pa, n3, .cons ⟨e1, ⟨kv, e2, e3⟩, e4⟩ t => by
    rw [List.flatMap_cons] at n3
    exact .cons ⟨tk_mut k mu _ _ e1, ⟨kv, k _ _ e2 (n3 _ (by simp)), e3.mut k mu n⟩, k _ _ e4 (n3 _ (by simp))⟩ (pas_mut k mu n (fun x hx => n3 x (List.mem_append_right _ hx)) t)
/-- an inn stays where none of its own is changed -/
theorem InnIn.keep {K : PySem.W.Frag} {H H' : Hp} {L W : List Addr} {a dx s t p : Addr} {ps : List (Addr × Addr × Addr)} {m : Int} {sh : Shf} {pa : List Shf} (I : InnIn K H W a dx s t p ps m sh pa) (k : Kp L H H') (mu : Muts H L) (n : ∀ x ∈ innF a s t p ps ++ W, x ∉ L) : InnIn K H' W a dx s t p ps m sh pa := by
  have n1 : ∀ x ∈ innF a s t p ps, x ∉ L := fun x hx => n x (List.mem_append_left _ hx)
  have n2 : ∀ x ∈ W, x ∉ L := fun x hx => n x (List.mem_append_right _ hx)
  obtain ⟨kvs, h1, h2⟩ := I.shelf
  refine ⟨k _ _ I.obj (n1 _ (by simp [innF])), ⟨kvs, k _ _ h1 (n1 _ (by simp [innF])), h2.mut k mu n2⟩, k _ _ I.taken (n1 _ (by simp [innF])), k _ _ I.past (n1 _ (by simp [innF])), ?_, I.nd, I.off, fun x hx => ?_, I.ok, I.oks⟩
  · exact pas_mut k mu n2 (fun x hx => n1 x (by simp only [innF, List.mem_cons]; exact .inr (.inr (.inr (.inr hx))))) I.pas
  · obtain ⟨o, e⟩ := I.known x hx
    exact ⟨o, k _ _ e (n2 x hx)⟩
theorem InnIn.same {K : PySem.W.Frag} {H H' : Hp} {W : List Addr} {a dx s t p : Addr} {ps : List (Addr × Addr × Addr)} {m : Int} {sh : Shf} {pa : List Shf} (I : InnIn K H W a dx s t p ps m sh pa) (k : Same H H') : InnIn K H' W a dx s t p ps m sh pa := I.keep (Same.kp k []) muts_nil fun x _ => by simp
theorem InnAt.keep {K : PySem.W.Frag} {H H' : Hp} {L M W : List Addr} {v : V} {m : Int} {sh : Shf} {pa : List Shf} (I : InnAt K H M W v m sh pa) (k : Kp L H H') (mu : Muts H L) (n : ∀ x ∈ M ++ W, x ∉ L) : InnAt K H' M W v m sh pa := by
  obtain ⟨a, dx, s, t, p, ps, rfl, rfl, I⟩ := I
  exact ⟨a, dx, s, t, p, ps, rfl, rfl, I.keep k mu n⟩
theorem InnAt.same {K : PySem.W.Frag} {H H' : Hp} {M W : List Addr} {v : V} {m : Int} {sh : Shf} {pa : List Shf} (I : InnAt K H M W v m sh pa) (k : Same H H') : InnAt K H' M W v m sh pa := I.keep (Same.kp k []) muts_nil fun x _ => by simp
/-! YNb: how an inn changes. -/
open PySem PySem.Spec PyProof.Rows L2
section
variable {K : PySem.W.Frag} {H H' : Hp} {W W' : List Addr} {a dx s t p q s' t' : Addr} {ps : List (Addr × Addr × Addr)} {m : Int} {sh sh' : Shf} {pa : List Shf} {kvs kvs' : List (Key × V)}
theorem innF_snoc (a s t p : Addr) (ps : List (Addr × Addr × Addr)) (x : Addr × Addr × Addr) : innF a s t p (ps ++ [x]) = innF a s t p ps ++ [x.2.1, x.2.2] := by
  simp [innF, List.flatMap_append]
theorem pas_wide (w : ∀ x ∈ W, x ∈ W') : ∀ {ps : List (Addr × Addr × Addr)} {pa : List Shf}, Paired (PastAt K H W) ps pa → Paired (PastAt K H W') ps pa
  | _, _, .nil => .nil
  | _, _, .cons ⟨e1, ⟨kv, e2, e3⟩, e4⟩ t => .cons ⟨e1, ⟨kv, e2, e3.wide w⟩, e4⟩ (pas_wide w t)
theorem InnIn.in (I : InnIn K H W a dx s t p ps m sh pa) : InnAt K H (innF a s t p ps) W (.ref a) m sh pa := ⟨a, dx, s, t, p, ps, rfl, rfl, I⟩
/-- none of an inn's places is another -/
theorem nd_ne {x y : Addr} {l r : List Addr} (h : (l ++ x :: r).Nodup) (hy : y ∈ l ++ r) : y ≠ x := by
  rw [List.nodup_append] at h
  obtain ⟨h1, h2, h3⟩ := h
  rintro rfl
  rcases List.mem_append.mp hy with hy | hy
  · exact h3 y hy y List.mem_cons_self rfl
  · exact (List.nodup_cons.mp h2).1 hy
/-- one more deed kept -/
theorem InnIn.push (I : InnIn K H W a dx s t p ps m sh pa) (hq : H q = some (.tup [.ref s', .ref t', .int 0])) (h1 : H s' = some (.dK kvs')) (h2 : ShAt K H W kvs' sh') (h3 : H t' = some (.dK [])) (ne : s' ≠ t') (n1 : s' ∉ innF a s t p ps) (n2 : t' ∉ innF a s t p ps) (o1 : s' ∉ W) (o2 : t' ∉ W) (ok : ShOk sh') :
    InnIn K (upd H p (.lst ((ps.map fun x => .ref x.1) ++ [.ref q]))) W a dx s t p (ps ++ [(q, s', t')]) m sh (pa ++ [sh']) := by
  have k : Kp [p] H (upd H p (.lst ((ps.map fun x => .ref x.1) ++ [.ref q]))) := kp_upd (by simp)
  have mu := muts_one I.past
  have nd := I.nd
  have ne' : ∀ x ∈ [a, s, t] ++ ps.flatMap (fun x => [x.2.1, x.2.2]), x ≠ p := fun x hx => nd_ne (l := [a, s, t]) nd hx
  have nW : ∀ x ∈ W, x ∉ [p] := fun x hx z => I.off x hx (by rw [List.mem_singleton.mp z]; simp [innF])
  have np : ∀ x, x ≠ p → x ∉ [p] := fun x h z => h (List.mem_singleton.mp z)
  have sp : s' ≠ p := fun z => n1 (by rw [z]; simp [innF])
  have tp : t' ≠ p := fun z => n2 (by rw [z]; simp [innF])
  obtain ⟨kv, e1, e2⟩ := I.shelf
  refine ⟨k _ _ I.obj (np _ (ne' _ (by simp))), ⟨kv, k _ _ e1 (np _ (ne' _ (by simp))), e2.mut k mu nW⟩, k _ _ I.taken (np _ (ne' _ (by simp))), by rw [upd_same, List.map_append]; rfl, ?_, ?_, ?_, fun x hx => ?_, I.ok, ?_⟩
  · exact Paired.app (pas_mut k mu nW (fun x hx => np _ (ne' _ (List.mem_append_right _ hx))) I.pas) (.cons ⟨tk_mut k mu _ _ hq, ⟨kvs', k _ _ h1 (np _ sp), h2.mut k mu nW⟩, k _ _ h3 (np _ tp)⟩ .nil)
  · rw [innF_snoc, List.nodup_append]
    refine ⟨nd, by simp [ne], ?_⟩
    rintro x hx y hy rfl
    simp at hy
    rcases hy with rfl | rfl
    · exact n1 hx
    · exact n2 hx
  · intro x hx hm
    rw [innF_snoc] at hm
    rcases List.mem_append.mp hm with hm | hm
    · exact I.off x hx hm
    · simp at hm
      rcases hm with rfl | rfl
      · exact o1 hx
      · exact o2 hx
  · obtain ⟨o, e⟩ := I.known x hx
    exact ⟨o, k _ _ e (nW x hx)⟩
  · intro u hu
    rcases List.mem_append.mp hu with hu | hu
    · exact I.oks u hu
    · rw [List.mem_singleton.mp hu]; exact ok
/-- a book laid anew -/
theorem InnIn.lay {F : List Addr} {v : V} {rs : List RuleD} {n : Str} (I : InnIn K H W a dx s t p ps m sh pa) (hs : H s = some (.dK kvs)) (b : BookAt K H F v rs) (off : ∀ x ∈ F, x ∉ innF a s t p ps) (ok : ShOk (putS sh n rs)) :
    InnIn K (upd H s (.dK (putK kvs (.inr n) v))) (W ++ F) a dx s t p ps m (putS sh n rs) pa := by
  have k : Kp [s] H (upd H s (.dK (putK kvs (.inr n) v))) := kp_upd (by simp)
  have mu : Muts H [s] := fun x hx o e => by
    rw [List.mem_singleton.mp hx, hs] at e
    cases e
    exact .inr (.inl ⟨_, rfl⟩)
  have nd := I.nd
  have ne' : ∀ x ∈ [a] ++ t :: p :: ps.flatMap (fun x => [x.2.1, x.2.2]), x ≠ s := fun x hx => nd_ne (l := [a]) nd hx
  have nW : ∀ x ∈ W ++ F, x ∉ [s] := fun x hx z => by
    rw [List.mem_singleton.mp z] at hx
    rcases List.mem_append.mp hx with hx | hx
    · exact I.off _ hx (by simp [innF])
    · exact off _ hx (by simp [innF])
  have np : ∀ x, x ≠ s → x ∉ [s] := fun x h z => h (List.mem_singleton.mp z)
  obtain ⟨kv, e1, e2⟩ := I.shelf
  rw [hs] at e1
  cases e1
  have wl : ∀ x ∈ W, x ∈ W ++ F := fun x hx => List.mem_append_left _ hx
  refine ⟨k _ _ I.obj (np _ (ne' _ (by simp))), ⟨_, upd_same, ?_⟩, k _ _ I.taken (np _ (ne' _ (by simp))), k _ _ I.past (np _ (ne' _ (by simp))), ?_, nd, ?_, fun x hx => ?_, ok, I.oks⟩
  · exact (sh_put b (fun x hx => List.mem_append_right _ hx) n (e2.wide wl)).mut k mu nW
  · exact pas_mut k mu nW (fun x hx => np _ (ne' _ (by simp only [List.mem_append, List.mem_cons]; exact .inr (.inr (.inr hx))))) (pas_wide wl I.pas)
  · intro x hx
    rcases List.mem_append.mp hx with hx | hx
    · exact I.off x hx
    · exact off x hx
  · obtain ⟨o, e⟩ : ∃ o, H x = some o := by
      rcases List.mem_append.mp hx with hx | hx
      · exact I.known x hx
      · exact b.known x hx
    exact ⟨o, k _ _ e (nW x hx)⟩
/-- the last deed taken back: the past list and the object written -/
theorem InnIn.pop (I : InnIn K H W a dx s t p (ps ++ [(q, s', t')]) m sh (pa ++ [sh'])) (k : Kp [a, p] H H') (ho : H' a = some (innO K dx s' t' p m)) (hp : H' p = some (.lst (ps.map fun x => .ref x.1))) : InnIn K H' W a dx s' t' p ps m sh' pa := by
  have mu : Muts H [a, p] := fun x hx o e => by
    obtain ⟨o', e', h⟩ := I.mem x (by simp at hx; rcases hx with rfl | rfl <;> simp [innF])
    rw [e] at e'
    cases e'
    exact h
  have nd := I.nd
  have ndl := nd
  rw [innF_snoc] at nd
  have off := I.off
  rw [innF_snoc] at off
  have nW : ∀ x ∈ W, x ∉ [a, p] := fun x hx z => off x hx (List.mem_append_left _ (by simp at z; rcases z with rfl | rfl <;> simp [innF]))
  obtain ⟨ps1, x1, e0, P1, hx1⟩ := Paired.snocR I.pas
  obtain ⟨e1, e2⟩ := List.append_inj' e0 rfl
  cases e2
  clear e0
  subst e1
  obtain ⟨h1, ⟨kv, h2, h3⟩, h4⟩ := hx1
  have ne' : ∀ x ∈ ps.flatMap (fun x => [x.2.1, x.2.2]) ++ [s', t'], x ∉ [a, p] := fun x hx z => by
    have hx' : x ∈ s :: t :: p :: (ps.flatMap (fun x => [x.2.1, x.2.2]) ++ [s', t']) := by simp only [List.mem_cons]; exact .inr (.inr (.inr hx))
    have nd' : (a :: s :: t :: p :: (ps.flatMap (fun x => [x.2.1, x.2.2]) ++ [s', t'])).Nodup := nd
    simp at z
    rcases z with rfl | rfl
    · exact (List.nodup_cons.mp nd').1 hx'
    · exact (List.nodup_cons.mp (List.nodup_cons.mp (List.nodup_cons.mp (List.nodup_cons.mp nd').2).2).2).1 hx
  refine ⟨ho, ⟨kv, k _ _ h2 (ne' _ (by simp)), h3.mut k mu nW⟩, k _ _ h4 (ne' _ (by simp)), hp, pas_mut k mu nW (fun x hx => ne' x (List.mem_append_left _ hx)) P1, ?_, fun x hx z => ?_, fun x hx => ?_, I.oks sh' (by simp), fun u hu => I.oks u (List.mem_append_left _ hu)⟩
  · have nd' : (a :: s :: t :: p :: (ps.flatMap (fun x => [x.2.1, x.2.2]) ++ [s', t'])).Nodup := nd
    have sub : (a :: p :: (ps.flatMap (fun x => [x.2.1, x.2.2]) ++ [s', t'])).Nodup := nd'.sublist (.cons_cons a (.cons s (.cons t (List.Sublist.refl _))))
    have pm : (innF a s' t' p ps).Perm (a :: p :: (ps.flatMap (fun x => [x.2.1, x.2.2]) ++ [s', t'])) := by
      show (a :: s' :: t' :: p :: ps.flatMap (fun x => [x.2.1, x.2.2])).Perm _
      refine .cons a ?_
      have e : (p :: (ps.flatMap (fun x => [x.2.1, x.2.2]) ++ [s', t'])) = (p :: ps.flatMap (fun x => [x.2.1, x.2.2])) ++ [s', t'] := rfl
      rw [e]
      exact List.perm_append_comm (l₁ := [s', t']) (l₂ := p :: ps.flatMap (fun x => [x.2.1, x.2.2]))
    exact pm.nodup_iff.mpr sub
  · refine off x hx ?_
    have z : x ∈ a :: s' :: t' :: p :: ps.flatMap (fun x => [x.2.1, x.2.2]) := z
    simp only [List.mem_cons, List.mem_append, innF, List.not_mem_nil, or_false] at z ⊢
    rcases z with z | z | z | z | z
    · exact .inl (.inl z)
    · exact .inr (.inl z)
    · exact .inr (.inr z)
    · exact .inl (.inr (.inr (.inr (.inl z))))
    · exact .inl (.inr (.inr (.inr (.inr z))))
  · obtain ⟨o, e⟩ := I.known x hx
    exact ⟨o, k _ _ e (nW x hx)⟩
end
/-- what is told of the class of inns -/
def CFI (K : PySem.W.Frag) : Prop := exInn K = true
theorem CFI.cls {K : PySem.W.Frag} (c : CFI K) : Cls K (He.ga K "Inn") := He.cls_ok (He.ba c).1
theorem CFI.no {K : PySem.W.Frag} (c : CFI K) {f : Str} (h : f ∈ (["many", "shelf", "taken", "coming", "past"] : List Str)) : NoAttr K (He.ga K "Inn") f := He.noat_ok (List.all_eq_true.mp (He.ba c).2 f h)
theorem g_ifld {K : PySem.W.Frag} {f : Str} {n : Nat} {σ : L2.St} {H : Hp} {Q : VK} {a dx : Addr} {fs : List (Str × V)} {x : V} (ci : CFI K) (h : σ[n]? = some (some (.ref a))) (o : H a = some (.ins (He.ga K "Inn") dx fs)) (m : f ∈ (["many", "shelf", "taken", "coming", "past"] : List Str)) (l : fs.lookup f = some x) (q : Q x H) : tFld K (tVar n) f σ H Q :=
  ⟨_, h, a, _, dx, fs, x, rfl, o, ci.cls, ci.no m, l, q⟩
theorem g_iset {K : PySem.W.Frag} {f : Str} {a dx : Addr} {fs : List (Str × V)} {y : V} {H : Hp} {Q : Hp → Prop} (ci : CFI K) (h : H a = some (.ins (He.ga K "Inn") dx fs)) (m : f ∈ (["many", "shelf", "taken", "coming", "past"] : List Str)) (l : fs.length < 1000) (q : Q (upd H a (.ins (He.ga K "Inn") dx (putF f y fs)))) : rSF K f (.ref a) y H Q :=
  ⟨a, _, dx, fs, rfl, h, ci.cls, ci.no m, l, q⟩
theorem g_imethX {K : PySem.W.Frag} {m : Str} {sp : Sp} {t : TA} {n : Nat} {σ : L2.St} {H : Hp} {Q : VK} {E : WX} {M W : List Addr} {v : V} {k : Int} {sh : Shf} {pa : List Shf} (h : σ[n]? = some (some v)) (b : InnAt K H M W v k sh pa) (no : (["many", "shelf", "taken", "coming", "past"] : List Str).all (fun f => !(m == f)) = true)
    (q : t σ H fun vs H2 => sp (v :: (vs ++ [])) H2 Q (WE E σ)) : tMethX (He.ga K "Inn") m sp [] E (tVar n) t σ H Q := by
  obtain ⟨a, dx, s, t', p, ps, rfl, rfl, I⟩ := b
  refine ⟨_, h, a, dx, _, rfl, I.obj, ?_, q⟩
  simp at no
  obtain ⟨n1, n2, n3, n4, n5⟩ := no
  simp [List.lookup, beq_eq_false_iff_ne.mpr n1, beq_eq_false_iff_ne.mpr n2, beq_eq_false_iff_ne.mpr n3, beq_eq_false_iff_ne.mpr n4, beq_eq_false_iff_ne.mpr n5]
def rDictD : List V → Hp → VK → Prop := fun xs H Q => ∃ (a : Addr) (kvs : List (Key × V)), xs = [.ref a] ∧ Rd H a (.dK kvs) ∧ ∀ p, H p = none → Q (.ref p) (upd H p (.dK kvs))
theorem g_dictD {H : Hp} {Q : VK} {a : Addr} {kvs : List (Key × V)} (h : H a = some (.dK kvs)) (q : ∀ p, Fr H p → Q (.ref p) (upd H p (.dK kvs))) : rDictD [.ref a] H Q := ⟨a, kvs, rfl, .inl h, q⟩
/-- what is never reached -/
def tNeverE : TE := fun _ _ _ => False
theorem pe_neverE {X : Cx} {e : Expr} : PE X e tNeverE := ⟨fun _ _ _ _ _ _ h => h.elim⟩
/-! YBa: what bars a stay. -/
open PySem PySem.Spec PyProof.Rows L2
def nightsL (rs : List RuleD) (c g : Int) : List (Wd × Int) := (days c g).filterMap fun n => if soldB rs n then none else some (Wd.price, n)
def bars1 (rs : List RuleD) (c g : Int) : List (Wd × Int) := nightsL rs c g ++ if comeB rs .come c then [] else [(.come, c)]
def bars2 (rs : List RuleD) (c g : Int) : List (Wd × Int) := bars1 rs c g ++ if comeB rs .go g then [] else [(.go, g)]
def bars3 (rs : List RuleD) (c g : Int) : List (Wd × Int) := bars2 rs c g ++ if g - c < numI rs .least c then [(.least, c)] else []
def barsL (rs : List RuleD) (c g : Int) : List (Wd × Int) := bars3 rs c g ++ if g - c > numI rs .most c then [(.most, c)] else []
def barD (p : Wd × Int) : PyData := .tuple [.str p.1.word, .int p.2]
def QBar (rs : List RuleD) (c g : Int) (H : Hp) (Q : VK) : Prop := ∀ (p : Addr) (xs : List V) (H' : Hp), Same H H' → Fr H p → H' p = some (.lst xs) → Tds H' xs ((barsL rs c g).map barD) → Q (.ref p) H'
def sp_bars (K : PySem.W.Frag) : Sp := Sp2 fun v y H Q E => CFR K ∧ CFB K ∧ ∃ (F : List Addr) (rs : List RuleD) (a : Addr) (c g : Int), y = .ref a ∧ BookAt K H F v rs ∧ (∀ r ∈ rs, RuleD.good r) ∧ SqT K H a [.int c, .int g] ∧ (c - 1000 ≤ g ∧ g ≤ c + 1000 ∧ -10000000 ≤ c ∧ c ≤ 10000000) ∧ QBar rs c g H Q
/-! YBi: bills of stays whose nights are sold. -/
open PySem PySem.Spec PyProof.Rows L2
def pricesL (rs : List RuleD) (c g : Int) : List Int := (days c g).map fun n => numI rs .price n
def dealO (rs : List RuleD) (c : Int) : Option (Int × Int) := match tellsD rs .deal c with | .tuple [.int m, .int f] => some (m, f) | _ => none
def marksL (rs : List RuleD) (c g : Int) : List Bool := mkO (pricesL rs c g) (dealO rs c)
def rowOf (rs : List RuleD) (c g : Int) (i : Nat) : Int × Int × Bool := ((days c g).getD i 0, (pricesL rs c g).getD i 0, (marksL rs c g).getD i false)
def rowsL (rs : List RuleD) (c g : Int) : List (Int × Int × Bool) := (List.range (days c g).length).map (rowOf rs c g)
def rowD (r : Int × Int × Bool) : PyData := .tuple [.int r.1, .int r.2.1, .bool r.2.2]
def paidL (rs : List RuleD) (c g : Int) : List Int := (rowsL rs c g).filterMap fun r => if r.2.2 then none else some r.2.1
def sumD (rs : List RuleD) (c g : Int) : Int := numI rs .fee c + (paidL rs c g).sum
def SoldAll (rs : List RuleD) (c g : Int) : Prop := ∀ n ∈ days c g, soldB rs n = true
def QBill (rs : List RuleD) (c g : Int) (H : Hp) (Q : VK) : Prop := ∀ (p q : Addr) (xs : List V) (H' : Hp), Same H H' → Fr H p → Fr H q → H' p = some (.tup [.int (sumD rs c g), .ref q, .int (numI rs .fee c)]) → H' q = some (.lst xs) → Tds H' xs ((rowsL rs c g).map rowD) → Q (.ref p) H'
def sp_bill (K : PySem.W.Frag) : Sp := Sp2 fun v y H Q E => CFR K ∧ CFB K ∧ ∃ (F : List Addr) (rs : List RuleD) (a : Addr) (c g : Int), y = .ref a ∧ BookAt K H F v rs ∧ (∀ r ∈ rs, RuleD.good r) ∧ SqT K H a [.int c, .int g] ∧ (c ≤ g ∧ g ≤ c + 900 ∧ -10000000 ≤ c ∧ c ≤ 10000000) ∧ SoldAll rs c g ∧ QBill rs c g H Q
def t_bill (K : PySem.W.Frag) : TS :=
  (tSeq (tAsg (tCall (sp_nights_of K) [] E0 (tCons (tVar 1) tNil)) (gName 2))
  (tSeq (tAsg (tLc (iList K (tVar 2)) (gName 7) tYes (tMeth (He.ga K "Book") "tells_of" (sp_Book_tells_of K) [] E0 (tVar 0) (tCons (tC (.str "price")) (tCons (tVar 7) tNil))) [7]) (gName 3))
  (tSeq (tIfS (tTest (tOp (rIn K false) (tC .non) (tVar 3)))
  tNever
  tNext)
  (tSeq (tAsg (tCall (sp_marked K) [] E0 (tCons (tVar 3) (tCons (tMeth (He.ga K "Book") "tells_of" (sp_Book_tells_of K) [] E0 (tVar 0) (tCons (tC (.str "deal")) (tCons (tOp (rIxT K) (tVar 1) (tC (.int 0))) tNil))) tNil))) (gName 4))
  (tSeq (tAsg (tMeth (He.ga K "Book") "tells_of" (sp_Book_tells_of K) [] E0 (tVar 0) (tCons (tC (.str "fee")) (tCons (tOp (rIxT K) (tVar 1) (tC (.int 0))) tNil))) (gName 5))
  (tSeq (tAsg (tLc (iRng1 (tCons (tCB (rLen K) (tCons (tVar 2) tNil)) tNil)) (gName 8) tYes (tTup (tCons (tOp (rIxL K) (tVar 2) (tVar 8)) (tCons (tOp (rIxL K) (tVar 3) (tVar 8)) (tCons (tOp (rIxL K) (tVar 4) (tVar 8)) tNil)))) [8]) (gName 6))
  (tRet (tTup (tCons (tOp rAdd (tVar 5) (tCB (rSum K) (tCons (tLc (iList K (tVar 6)) (gTup K 3 (gCons (gName 7) (gCons (gName 9) (gCons (gName 10) gNil)))) (tNot (tB (tVar 10))) (tVar 9) [7, 9, 10]) tNil))) (tCons (tVar 6) (tCons (tVar 5) tNil)))))))))))
/-! YCo: whether a stay can be had, what it costs. -/
open PySem PySem.Spec PyProof.Rows L2
def hadB (rs : List RuleD) (c g : Int) : Bool := decide (numI rs .least c ≤ g - c) && (decide (g - c ≤ numI rs .most c) && (comeB rs .come c && (comeB rs .go g && (days c g).all (soldB rs))))
def coinO (rs : List RuleD) (c g : Int) : Option Int := if hadB rs c g then some (sumD rs c g) else none
def BkOk (K : PySem.W.Frag) (H : Hp) (v y : V) (rs : List RuleD) (c g : Int) : Prop := ∃ (F : List Addr) (a : Addr), y = .ref a ∧ BookAt K H F v rs ∧ (∀ r ∈ rs, RuleD.good r) ∧ SqT K H a [.int c, .int g] ∧ (c ≤ g ∧ g ≤ c + 900 ∧ -10000000 ≤ c ∧ c ≤ 10000000)
def sp_can_be_had (K : PySem.W.Frag) : Sp := Sp2 fun v y H Q E => CFR K ∧ CFB K ∧ ∃ rs c g, BkOk K H v y rs c g ∧ ∀ H', Same H H' → Q (.bl (hadB rs c g)) H'
def sp_coins_of (K : PySem.W.Frag) : Sp := Sp2 fun v y H Q E => CFR K ∧ CFB K ∧ ∃ rs c g, BkOk K H v y rs c g ∧ ∀ H', Same H H' → Q (if hadB rs c g then .int (sumD rs c g) else .non) H'
def spx_cost (K : PySem.W.Frag) : Sp := Sp2 fun v y H Q E => CFR K ∧ CFB K ∧ exInit "Barred" "bars" K = true ∧ ∃ rs c g, BkOk K H v y rs c g ∧ (hadB rs c g = true → ∀ H', Same H H' → Q (.int (sumD rs c g)) H') ∧
  (hadB rs c g = false → ∀ (p dd : Addr) (xs : List V) (H' : Hp), Same H H' → Fr H p → H' p = some (.lst xs) → Tds H' xs ((barsL rs c g).map barD) → H' dd = some (.xd [("bars", .ref p)]) → E (.ref (He.ga K "Barred")) (some dd) H')
def t_can_be_had (K : PySem.W.Frag) : TS :=
  (tSeq (tAsg (tVar 1) (gTup K 2 (gCons (gName 2) (gCons (gName 3) gNil))))
  (tSeq (tIfS (tNot (tTest (tChain rLe rLe (tMeth (He.ga K "Book") "tells_of" (sp_Book_tells_of K) [] E0 (tVar 0) (tCons (tC (.str "least")) (tCons (tVar 2) tNil))) (tOp rSub (tVar 3) (tVar 2)) (tMeth (He.ga K "Book") "tells_of" (sp_Book_tells_of K) [] E0 (tVar 0) (tCons (tC (.str "most")) (tCons (tVar 2) tNil))))))
  (tRet (tC (.bl false)))
  tNext)
  (tSeq (tIfS (tOr (tNot (Y.tTru K (tMeth (He.ga K "Book") "tells_of" (sp_Book_tells_of K) [] E0 (tVar 0) (tCons (tC (.str "come")) (tCons (tVar 2) tNil))))) (tNot (Y.tTru K (tMeth (He.ga K "Book") "tells_of" (sp_Book_tells_of K) [] E0 (tVar 0) (tCons (tC (.str "go")) (tCons (tVar 3) tNil))))))
  (tRet (tC (.bl false)))
  tNext)
  (tSeq (tFor (iList K (tCall (sp_nights_of K) [] E0 (tCons (tVar 1) tNil))) (gName 4)
  (tIfS (tTest (tOp rIsN (tMeth (He.ga K "Book") "tells_of" (sp_Book_tells_of K) [] E0 (tVar 0) (tCons (tC (.str "price")) (tCons (tVar 4) tNil))) (tC .non)))
  (tRet (tC (.bl false)))
  tNext))
  (tRet (tC (.bl true)))))))
def t_coins_of (K : PySem.W.Frag) : TS :=
  (tSeq (tIfS (tNot (tB (tCall (sp_can_be_had K) [] E0 (tCons (tVar 0) (tCons (tVar 1) tNil)))))
  (tRet (tC .non))
  tNext)
  (tRet (tOp (rIxT K) (tCall (sp_bill K) [] E0 (tCons (tVar 0) (tCons (tVar 1) tNil))) (tC (.int 0)))))
/-! YDi: dicts by whole numbers. -/
open PySem PySem.Spec PyProof.Rows L2
abbrev Df := Int → Option PyData
def OTd (H : Hp) : Option V → Option PyData → Prop
  | some v, some d => Td H v d
  | none, none => True
  | _, _ => False
/-- a dict of whole numbers stands at a -/
def DicI (H : Hp) (a : Addr) (F : Df) : Prop := ∃ (kvs : List (Key × V)) (ks : List Int), H a = some (.dK kvs) ∧ kvs.map (·.1) = ks.map Sum.inl ∧ ks.Nodup ∧ ∀ i : Int, OTd H (valV kvs (.inl i)) (F i)
def dset (F : Df) (i : Int) (d : PyData) : Df := fun j => if j = i then some d else F j
theorem dic_keys {H : Hp} {kvs : List (Key × V)} {ks : List Int} {F : Df} (e : kvs.map (·.1) = ks.map Sum.inl) (h : ∀ i : Int, OTd H (valV kvs (.inl i)) (F i)) (i : Int) : i ∈ ks ↔ (F i).isSome = true := by
  have h1 := h i
  have mem : (Sum.inl i : Key) ∈ kvs.map (·.1) ↔ i ∈ ks := by
    rw [e, List.mem_map]
    constructor
    · rintro ⟨j, hj, q⟩
      cases q
      exact hj
    · exact fun hi => ⟨i, hi, rfl⟩
  rw [← mem]
  cases hv : valV kvs (.inl i) with
  | none =>
    have nm := valV_not hv
    rw [hv] at h1
    cases hF : F i with
    | none => simp; exact fun x hx => nm (List.mem_map.mpr ⟨_, hx, rfl⟩)
    | some d => rw [hF] at h1; exact h1.elim
  | some v =>
    have im := valV_in hv
    rw [hv] at h1
    cases hF : F i with
    | none => rw [hF] at h1; exact h1.elim
    | some d => exact ⟨fun _ => rfl, fun _ => im⟩
theorem g_dg {td ty : TE} {σ : L2.St} {H : Hp} {Q : VK} (h : td σ H fun x H1 => ty σ H1 fun y H2 => ∃ a v, x = .ref a ∧ DGet H2 a y (some v) ∧ Q v H2) : tDGet td ty σ H Q := h
theorem g_dnin {td ty : TE} {σ : L2.St} {H : Hp} {Q : VK} (h : ty σ H fun y H1 => td σ H1 fun x H2 => ∃ a o, x = .ref a ∧ DGet H2 a y o ∧ Q (.bl (!o.isSome)) H2) : tDNotIn ty td σ H Q := h
theorem g_sdput {td ty tv : TE} {D : Ends} {σ : L2.St} {H : Hp} (h : tv σ H fun v H1 => td σ H1 fun x H2 => ty σ H2 fun y H3 => ∃ a H4, x = .ref a ∧ DPut H3 a y v H4 ∧ D.nx σ H4) : sDPut td ty tv D σ H := h
abbrev rSortDI : List V → Hp → VK → Prop := fun xs H Q => ∃ (a : Addr) (kvs : List (Key × V)) (ks : List Int), xs = [.ref a] ∧ Rd H a (.dK kvs) ∧ kvs.map (·.1) = ks.map Sum.inl ∧ ks.length < 64 ∧
    ∀ (ys : List Int) (p : Addr), ys.Perm ks → ys.Pairwise (· ≤ ·) → H p = none → Q (.ref p) (upd H p (.lst (ys.map V.int)))
theorem cr_sortDI {X : Cx} (hc : X.calm = true) : CallR X (.builtin "sorted") rSortDI := call_sortedDI hc
theorem sorted_ext : ∀ {l m : List Int}, l.Pairwise (· < ·) → m.Pairwise (· < ·) → (∀ x, x ∈ l ↔ x ∈ m) → l = m
  | [], [], _, _, _ => rfl
  | [], y :: m, _, _, h => by have := (h y).mpr List.mem_cons_self; cases this
  | x :: l, [], _, _, h => by have := (h x).mp List.mem_cons_self; cases this
  | x :: l, y :: m, hl, hm, h => by
    have hl' := List.pairwise_cons.mp hl
    have hm' := List.pairwise_cons.mp hm
    have xy : x = y := by
      rcases List.mem_cons.mp ((h x).mp List.mem_cons_self) with e | e
      · exact e
      · rcases List.mem_cons.mp ((h y).mpr List.mem_cons_self) with e' | e'
        · exact e'.symm
        · have := hl'.1 y e'
          have := hm'.1 x e
          omega
    subst xy
    rw [sorted_ext hl'.2 hm'.2 fun z => ?_]
    constructor
    · intro hz
      rcases List.mem_cons.mp ((h z).mp (List.mem_cons_of_mem _ hz)) with e | e
      · subst e; have := hl'.1 z hz; omega
      · exact e
    · intro hz
      rcases List.mem_cons.mp ((h z).mpr (List.mem_cons_of_mem _ hz)) with e | e
      · subst e; have := hm'.1 z hz; omega
      · exact e
theorem perm_sorted {ys ks m : List Int} (p : ys.Perm ks) (s : ys.Pairwise (· ≤ ·)) (nd : ks.Nodup) (hm : m.Pairwise (· < ·)) (h : ∀ x, x ∈ ks ↔ x ∈ m) : ys = m := by
  refine sorted_ext ?_ hm fun x => by rw [p.mem_iff]; exact h x
  have nd' : ys.Nodup := p.nodup_iff.mpr nd
  have := s.and nd'
  exact this.imp fun ⟨a, b⟩ => by omega
theorem g_sortDI {H : Hp} {a : Addr} {F : Df} {m : List Int} {Q : VK} (h : DicI H a F) (hm : m.Pairwise (· < ·)) (hx : ∀ x, (F x).isSome = true ↔ x ∈ m) (hl : m.length < 64) (q : ∀ p, Fr H p → Q (.ref p) (upd H p (.lst (m.map V.int)))) : rSortDI [.ref a] H Q := by
  obtain ⟨kvs, ks, h1, h2, h3, h4⟩ := h
  have hk : ∀ x, x ∈ ks ↔ x ∈ m := fun x => (dic_keys h2 h4 x).trans (hx x)
  have hlen : ks.length = m.length := List.Perm.length_eq ((List.perm_ext_iff_of_nodup h3 (hm.imp fun a => by omega)).mpr hk)
  refine ⟨a, kvs, ks, rfl, Rd.of h1, h2, by omega, fun ys p pm s hp => ?_⟩
  rw [perm_sorted pm s h3 hm hk]
  exact q p hp
/-- the values of a locked dict -/
theorem walk_vals {d : Addr} {o : Obj} {kvs : List (Key × V)} : Walk (Itd d o kvs) kvs.length (fun H => H d = some (.frz o (.dK kvs))) (fun i H x H' => H' = H ∧ ∃ k, kvs[i]? = some (k, x)) :=
  ⟨fun i H hi h => ⟨h, hi⟩, fun H h => ⟨h, Nat.le_refl _⟩, fun i H x H' _ _ y => y⟩
theorem unlock_same {H H' : Hp} {d : Addr} {u w : HO} (h : H d = some u) (s : Same (upd H d w) H') : Same H (upd H' d u) := fun b x e => by
  by_cases z : b = d
  · subst z
    rw [h] at e
    cases e
    exact upd_same
  · exact at_ne z (s _ _ (at_ne z e))
/-! YNw: an inn's questions, walked (no stay taken). -/
open PySem PySem.Spec PyProof.Rows L2
def sp_Inn_keep (K : PySem.W.Frag) : Sp := Sp1 fun v H Q E => CFI K ∧ ∃ M W m sh pa, InnAt K H M W v m sh pa ∧ pa.length ≤ 1000 ∧ ∀ H' M', Kp M H H' → InnAt K H' M' W v m sh (pa ++ [sh]) → (∀ x ∈ M', x ∈ M ∨ Fr H x) → Q .non H'
theorem g_ikeep {K : PySem.W.Frag} {M W : List Addr} {v : V} {m : Int} {sh : Shf} {pa : List Shf} {H : Hp} {Q : VK} {E : XK} (ci : CFI K) (I : InnAt K H M W v m sh pa) (l : pa.length ≤ 1000) (q : ∀ H' M', Kp M H H' → InnAt K H' M' W v m sh (pa ++ [sh]) → (∀ x ∈ M', x ∈ M ∨ Fr H x) → Q .non H') : sp_Inn_keep K (v :: ([] ++ [])) H Q E := ⟨_, rfl, ci, M, W, m, sh, pa, I, l, q⟩
def sp_Inn_need_name (K : PySem.W.Frag) : Sp := Sp2 fun v y H Q E => CFI K ∧ ∃ M W m sh pa n, InnAt K H M W v m sh pa ∧ y = .str n ∧ lookS sh n ≠ none ∧ Q .non H
theorem g_ineed {K : PySem.W.Frag} {M W : List Addr} {v : V} {m : Int} {sh : Shf} {pa : List Shf} {n : Str} {H : Hp} {Q : VK} {E : XK} (ci : CFI K) (I : InnAt K H M W v m sh pa) (l : lookS sh n ≠ none) (q : Q .non H) : sp_Inn_need_name K (v :: ([.str n] ++ [])) H Q E := ⟨_, _, rfl, ci, M, W, m, sh, pa, n, I, rfl, l, q⟩
def spx_Inn_need_name (K : PySem.W.Frag) : Sp := Sp2 fun v y H Q E => CFI K ∧ exBare "NoName" K = true ∧ ∃ M W m sh pa n, InnAt K H M W v m sh pa ∧ y = .str n ∧ (lookS sh n ≠ none → Q .non H) ∧ (lookS sh n = none → E (.ref (He.ga K "NoName")) none H)
theorem gx_ineed {K : PySem.W.Frag} {M W : List Addr} {v : V} {m : Int} {sh : Shf} {pa : List Shf} {n : Str} {H : Hp} {Q : VK} {E : XK} (ci : CFI K) (cn : exBare "NoName" K = true) (I : InnAt K H M W v m sh pa) (q : lookS sh n ≠ none → Q .non H) (x : lookS sh n = none → E (.ref (He.ga K "NoName")) none H) : spx_Inn_need_name K (v :: ([.str n] ++ [])) H Q E := ⟨_, _, rfl, ci, cn, M, W, m, sh, pa, n, I, rfl, q, x⟩
def sp_Inn_rules_of (K : PySem.W.Frag) : Sp := Sp2 fun v y H Q E => CFI K ∧ CFR K ∧ CFB K ∧ ∃ M W m sh pa n rs, InnAt K H M W v m sh pa ∧ y = .str n ∧ lookS sh n = some rs ∧ ∀ p H' ys, Same H H' → Fr H p → H' p = some (.lst ys) → Rus H' ys rs → Q (.ref p) H'
theorem g_irules {K : PySem.W.Frag} {M W : List Addr} {v : V} {m : Int} {sh : Shf} {pa : List Shf} {n : Str} {rs : List RuleD} {H : Hp} {Q : VK} {E : XK} (ci : CFI K) (c : CFR K) (cb : CFB K) (I : InnAt K H M W v m sh pa) (l : lookS sh n = some rs) (q : ∀ p H' ys, Same H H' → Fr H p → H' p = some (.lst ys) → Rus H' ys rs → Q (.ref p) H') : sp_Inn_rules_of K (v :: ([.str n] ++ [])) H Q E := ⟨_, _, rfl, ci, c, cb, M, W, m, sh, pa, n, rs, I, rfl, l, q⟩
def spx_Inn_rules_of (K : PySem.W.Frag) : Sp := Sp2 fun v y H Q E => CFI K ∧ CFR K ∧ CFB K ∧ exBare "NoName" K = true ∧ ∃ M W m sh pa n, InnAt K H M W v m sh pa ∧ y = .str n ∧ (∀ rs p H' ys, lookS sh n = some rs → Same H H' → Fr H p → H' p = some (.lst ys) → Rus H' ys rs → Q (.ref p) H') ∧ (lookS sh n = none → E (.ref (He.ga K "NoName")) none H)
theorem gx_irules {K : PySem.W.Frag} {M W : List Addr} {v : V} {m : Int} {sh : Shf} {pa : List Shf} {n : Str} {H : Hp} {Q : VK} {E : XK} (ci : CFI K) (c : CFR K) (cb : CFB K) (cn : exBare "NoName" K = true) (I : InnAt K H M W v m sh pa) (q : ∀ rs p H' ys, lookS sh n = some rs → Same H H' → Fr H p → H' p = some (.lst ys) → Rus H' ys rs → Q (.ref p) H') (x : lookS sh n = none → E (.ref (He.ga K "NoName")) none H) : spx_Inn_rules_of K (v :: ([.str n] ++ [])) H Q E := ⟨_, _, rfl, ci, c, cb, cn, M, W, m, sh, pa, n, I, rfl, q, x⟩
/-- a new empty list -/
def sp_Inn_none (K : PySem.W.Frag) : Sp := Sp1 fun v H Q E => CFI K ∧ ∃ M W m sh pa, InnAt K H M W v m sh pa ∧ ∀ p H', Same H H' → Fr H p → H' p = some (.lst []) → Q (.ref p) H'
theorem g_inone {K : PySem.W.Frag} {M W : List Addr} {v : V} {m : Int} {sh : Shf} {pa : List Shf} {H : Hp} {Q : VK} {E : XK} (ci : CFI K) (I : InnAt K H M W v m sh pa) (q : ∀ p H', Same H H' → Fr H p → H' p = some (.lst []) → Q (.ref p) H') : sp_Inn_none K (v :: ([] ++ [])) H Q E := ⟨_, rfl, ci, M, W, m, sh, pa, I, q⟩
theorem g_irobj {K : PySem.W.Frag} {m : Str} {H : Hp} {R : Hp → Prop} {M W : List Addr} {v : V} {k : Int} {sh : Shf} {pa : List Shf} (b : InnAt K H M W v k sh pa) (no : (["many", "shelf", "taken", "coming", "past"] : List Str).all (fun f => !(m == f)) = true) (q : R H) : rObj (He.ga K "Inn") m v H R := by
  obtain ⟨a, dx, s, t', p, ps, rfl, rfl, I⟩ := b
  refine ⟨a, dx, _, rfl, I.obj, ?_, q⟩
  simp at no
  obtain ⟨n1, n2, n3, n4, n5⟩ := no
  simp [List.lookup, beq_eq_false_iff_ne.mpr n1, beq_eq_false_iff_ne.mpr n2, beq_eq_false_iff_ne.mpr n3, beq_eq_false_iff_ne.mpr n4, beq_eq_false_iff_ne.mpr n5]
theorem g_iV {td : TE} {σ : L2.St} {H : Hp} {R : It → Hp → Prop} (h : td σ H fun x H1 => ∃ d o kvs, x = .ref d ∧ H1 d = some (.frz o (.dK kvs)) ∧ R (Itd d o kvs) H1) : iVals td σ H R := h
theorem g_iI {td : TE} {σ : L2.St} {H : Hp} {R : It → Hp → Prop} (h : td σ H fun x H1 => ∃ d o kvs, x = .ref d ∧ H1 d = some (.frz o (.dK kvs)) ∧ R (Iti d o kvs) H1) : iItems td σ H R := h
theorem walk_items0 {d : Addr} {o : Obj} : Walk (Iti d o []) 0 (fun H => H d = some (.frz o (.dK []))) (fun _ _ _ _ => False) :=
  ⟨fun i H hi _ => absurd hi (Nat.not_lt_zero _), fun H h => ⟨h, Nat.le_refl _⟩, fun i H x H' hi _ _ => absurd hi (Nat.not_lt_zero _)⟩
abbrev sp_Inn_full (K : PySem.W.Frag) : Sp := sp_Inn_none K
abbrev sp_Inn_standing (K : PySem.W.Frag) : Sp := sp_Inn_none K
abbrev sp_Inn_rooms (K : PySem.W.Frag) : Sp := sp_Inn_none K
def t_Inn_keep (K : PySem.W.Frag) : TS :=
  (tDrop (tBM K "list" rAppend (tFld K (tVar 0) "past") (tCons (tTup (tCons (tCB Y.rDictD (tCons (tFld K (tVar 0) "shelf") tNil)) (tCons (tCB Y.rDictD (tCons (tFld K (tVar 0) "taken") tNil)) (tCons (tFld K (tVar 0) "coming") tNil)))) tNil)))
theorem pure_Inn_keep {K : PySem.W.Frag} {v : V} {H : Hp} {Q : VK} {E : XK} (h : sp_Inn_keep K [v] H Q E) : t_Inn_keep K { nx := fun _ H' => Q .non H', rt := Q } [some v] H := by
  obtain ⟨v, e, ci, M, W, m, sh, pa, ⟨a, dx, s, t, p, ps, rfl, rfl, I⟩, l, q⟩ := h
  cases e
  unfold t_Inn_keep
  obtain ⟨kvs, hs, hsh⟩ := I.shelf
  walk_at "ss"
  refine g_ifld ci rfl I.obj (by decide) rfl ?_
  refine g_tyL (SqL.of I.past) ?_
  walk_at "ss"
  refine g_ifld ci rfl I.obj (by decide) rfl ?_
  walk_at "ss"
  refine g_dictD hs fun s' hs' => ?_
  walk_at "ss"
  have I1 : InnAt K (upd H s' (.dK kvs)) (innF a s t p ps) W (.ref a) m sh pa := I.in.same (same_new hs')
  refine g_ifld ci rfl (at_new hs' I.obj) (by decide) rfl ?_
  walk_at "ss"
  refine g_dictD (at_new hs' I.taken) fun t' ht' => ?_
  walk_at "ss"
  refine g_ifld ci rfl (at_new ht' (at_new hs' I.obj)) (by decide) rfl ?_
  walk_at "ss"
  rename_i q' hq'
  have e1 : (upd (upd H s' (.dK kvs)) t' (.dK [])) s' = some (.dK kvs) := at_new ht' upd_same
  have sm2 : Same H (upd (upd H s' (.dK kvs)) t' (.dK [])) := sm_new ht' (same_new hs')
  have sm3 : Same H (upd (upd (upd H s' (.dK kvs)) t' (.dK [])) q' (.tup [.ref s', .ref t', .int 0])) := sm_new hq' sm2
  obtain ⟨G, eG⟩ : ∃ G, G = upd (upd (upd H s' (.dK kvs)) t' (.dK [])) q' (.tup [.ref s', .ref t', .int 0]) := ⟨_, rfl⟩
  have gs : G s' = some (.dK kvs) := by rw [eG]; exact at_new hq' e1
  have gt : G t' = some (.dK []) := by rw [eG]; exact at_new hq' upd_same
  have gq : G q' = some (.tup [.ref s', .ref t', .int 0]) := by rw [eG]; exact upd_same
  rw [← eG] at sm3 ⊢
  have fs : Fr H s' := hs'
  have ft : Fr H t' := fr_new ht'
  have ne : s' ≠ t' := ne_of_none (o := .dK kvs) upd_same ht'
  have sm' : Same H G := sm3
  have fn : ∀ {x : Addr}, Fr H x → x ∉ innF a s t p ps ++ W := fun {x} fx hx => by
    obtain ⟨o, e⟩ := I.in.known x hx
    rw [show H x = none from fx] at e
    cases e
  clear eG sm2 e1 hq' ht' hs' I1 sm3
  have I2 := I.same sm'
  have pl := Paired.length I.pas
  walk_at "ss"
  refine g_append I2.past (by rw [List.length_map, sizeLine_eq]; omega) ?_
  refine q _ (innF a s t p (ps ++ [(q', s', t')])) ?_ (I2.push gq gs (hsh.mut (Same.kp sm' []) muts_nil fun x _ => by simp) gt ne (fun z => fn fs (List.mem_append_left _ z)) (fun z => fn ft (List.mem_append_left _ z)) (fun z => fn fs (List.mem_append_right _ z)) (fun z => fn ft (List.mem_append_right _ z)) I.ok).in fun x hx => ?_
  · exact fun x o e n => at_ne (fun z => n (by rw [z]; simp [innF])) (sm' _ _ e)
  · rw [innF_snoc] at hx
    rcases List.mem_append.mp hx with hx | hx
    · exact .inl hx
    · simp at hx
      rcases hx with rfl | rfl
      · exact .inr fs
      · exact .inr ft
def t_Inn_need_name (K : PySem.W.Frag) : TS :=
  (tIfS (tB (tDNotIn (tVar 1) (tFld K (tVar 0) "shelf")))
  tNever
  tNext)
theorem pure_Inn_need_name {K : PySem.W.Frag} {v y : V} {H : Hp} {Q : VK} {E : XK} (h : sp_Inn_need_name K [v, y] H Q E) : t_Inn_need_name K { nx := fun _ H' => Q .non H', rt := Q } [some v, some y] H := by
  obtain ⟨v, y, e, ci, M, W, m, sh, pa, n, ⟨a, dx, s, t, p, ps, rfl, rfl, I⟩, rfl, l, q⟩ := h
  cases e
  unfold t_Inn_need_name
  obtain ⟨kvs, hs, hsh⟩ := I.shelf
  walk_at "ss"
  refine g_ifld ci rfl I.obj (by decide) rfl ?_
  refine ⟨s, _, rfl, .inl ⟨kvs, .inr n, .inl hs, rfl, rfl⟩, _, rfl, ?_⟩
  rcases sh_get n hsh with ⟨e, -⟩ | ⟨rs, v, F, -, -, e, -⟩
  · exact absurd e l
  · rw [e]
    refine ite_f rfl ?_
    walk_at "ss"
    exact q
def x_Inn_need_name (K : PySem.W.Frag) (E : XK) : TS :=
  (tIfS (tB (tDNotIn (tVar 1) (tFld K (tVar 0) "shelf")))
  (tRaiseB K "NoName" (XW E))
  tNext)
theorem purex_Inn_need_name {K : PySem.W.Frag} {v y : V} {H : Hp} {Q : VK} {E : XK} (h : spx_Inn_need_name K [v, y] H Q E) : x_Inn_need_name K E { nx := fun _ H' => Q .non H', rt := Q } [some v, some y] H := by
  obtain ⟨v, y, e, ci, cn, M, W, m, sh, pa, n, ⟨a, dx, s, t, p, ps, rfl, rfl, I⟩, rfl, q, x⟩ := h
  cases e
  unfold x_Inn_need_name
  obtain ⟨kvs, hs, hsh⟩ := I.shelf
  walk_at "ss"
  refine g_ifld ci rfl I.obj (by decide) rfl ?_
  refine ⟨s, _, rfl, .inl ⟨kvs, .inr n, .inl hs, rfl, rfl⟩, _, rfl, ?_⟩
  rcases sh_get n hsh with ⟨e1, e⟩ | ⟨rs, v, F, e1, -, e, -⟩
  · rw [e]
    refine ite_t rfl ?_
    walk_at "ss"
    exact ⟨cn, x e1⟩
  · rw [e]
    refine ite_f rfl ?_
    walk_at "ss"
    exact q (by rw [e1]; simp)
def t_Inn_rules_of (K : PySem.W.Frag) : TS :=
  (tSeq (tDrop (tMeth (He.ga K "Inn") "need_name" (sp_Inn_need_name K) [] E0 (tVar 0) (tCons (tVar 1) tNil)))
  (tRet (tMeth (He.ga K "Book") "rules" (sp_Book_rules K) [] E0 (tDGet (tFld K (tVar 0) "shelf") (tVar 1)) tNil)))
theorem pure_Inn_rules_of {K : PySem.W.Frag} {v y : V} {H : Hp} {Q : VK} {E : XK} (h : sp_Inn_rules_of K [v, y] H Q E) : t_Inn_rules_of K { nx := fun _ H' => Q .non H', rt := Q } [some v, some y] H := by
  obtain ⟨v, y, e, ci, c, cb, M, W, m, sh, pa, n, rs, J, rfl, l, q⟩ := h
  cases e
  unfold t_Inn_rules_of
  walk_at "ss"
  refine g_irobj J (by decide) ?_
  walk_at "ss"
  refine g_ineed ci J (by rw [l]; simp) ?_
  obtain ⟨a, dx, s, t, p, ps, rfl, rfl, I⟩ := J
  obtain ⟨kvs, hs, hsh⟩ := I.shelf
  walk_at "ss"
  refine g_ifld ci rfl I.obj (by decide) rfl ?_
  walk_at "ss"
  rcases sh_get n hsh with ⟨e, -⟩ | ⟨rs', v, F, e, hm, ev, b, -⟩
  · rw [e] at l; cases l
  · rw [e] at l
    cases l
    refine ⟨s, v, rfl, .inl ⟨kvs, .inr n, .inl hs, rfl, ev.symm⟩, ?_⟩
    refine g_robj b (by decide) ?_
    walk_at "ss"
    refine g_brules c cb b (by have := I.ok.len _ hm; dsimp only at this; omega) fun p H' ys s1 f1 h1 R1 => ?_
    exact q p H' ys s1 f1 h1 R1
def x_Inn_rules_of (K : PySem.W.Frag) (E : XK) : TS :=
  (tSeq (tDrop (tMethX (He.ga K "Inn") "need_name" (spx_Inn_need_name K) [] (XW E) (tVar 0) (tCons (tVar 1) tNil)))
  (tRet (tMeth (He.ga K "Book") "rules" (sp_Book_rules K) [] E0 (tDGet (tFld K (tVar 0) "shelf") (tVar 1)) tNil)))
theorem purex_Inn_rules_of {K : PySem.W.Frag} {v y : V} {H : Hp} {Q : VK} {E : XK} (h : spx_Inn_rules_of K [v, y] H Q E) : x_Inn_rules_of K E { nx := fun _ H' => Q .non H', rt := Q } [some v, some y] H := by
  obtain ⟨v, y, e, ci, c, cb, cn, M, W, m, sh, pa, n, J, rfl, q, x⟩ := h
  cases e
  unfold x_Inn_rules_of
  walk_at "ss"
  refine g_imethX (n := 0) rfl J (by decide) ?_
  walk_at "ss"
  refine gx_ineed ci cn J (fun l => ?_) fun l => x l
  obtain ⟨a, dx, s, t, p, ps, rfl, rfl, I⟩ := J
  obtain ⟨kvs, hs, hsh⟩ := I.shelf
  walk_at "ss"
  refine g_ifld ci rfl I.obj (by decide) rfl ?_
  walk_at "ss"
  rcases sh_get n hsh with ⟨e, -⟩ | ⟨rs, v, F, e, hm, ev, b, -⟩
  · exact absurd e l
  · refine ⟨s, v, rfl, .inl ⟨kvs, .inr n, .inl hs, rfl, ev.symm⟩, ?_⟩
    refine g_robj b (by decide) ?_
    walk_at "ss"
    refine g_brules c cb b (by have := I.ok.len _ hm; dsimp only at this; omega) fun p H' ys s1 f1 h1 R1 => ?_
    exact q rs p H' ys e s1 f1 h1 R1
def t_Inn_full (K : PySem.W.Frag) : TS :=
  (tSeq (tAsg tDNewK (gName 1))
  (tSeq (tLock (tFor (iVals (tFld K (tVar 0) "taken")) (gTup K 3 (gCons (gName 2) (gCons (gName 3) (gCons (gName 4) gNil))))
  (tFor (iList K (tCall (sp_nights_of K) [] E0 (tCons (tVar 2) tNil))) (gName 5)
  (sDPut (tVar 1) (tVar 5) (tOp rAdd (tDGet2 (tVar 1) (tVar 5) (tC (.int 0))) (tC (.int 1)))))))
  (tRet (tCB (rSortedI K) (tCons (tLockE (tLc (iItems (tVar 1)) (gTup K 2 (gCons (gName 5) (gCons (gName 6) gNil))) (tTest (tOp rEq (tVar 6) (tFld K (tVar 0) "many"))) (tVar 5) [5, 6])) tNil)))))
theorem pure_Inn_full {K : PySem.W.Frag} {v : V} {H : Hp} {Q : VK} {E : XK} (h : sp_Inn_full K [v] H Q E) : t_Inn_full K { nx := fun _ H' => Q .non H', rt := Q } [some v, none, none, none, none, none, none] H := by
  obtain ⟨v, e, ci, M, W, m, sh, pa, ⟨a, dx, s, t, p, ps, rfl, rfl, I⟩, q⟩ := h
  cases e
  unfold t_Inn_full
  walk_at "ss"
  refine fun d hd => ?_
  walk_at "ss"
  have sX : Same H (upd H d (.dK [])) := same_new hd
  have hX : (upd H d (.dK [])) d = some (.dK []) := upd_same
  have fd : Fr H d := hd
  generalize upd H d (.dK []) = X at sX hX ⊢
  have tX := sX _ _ I.taken
  refine ⟨t, _, tX, by trivial, fun od => ?_⟩
  have nat : a ≠ t := fun z => by
    have := I.nd
    rw [z] at this
    simp [innF] at this
  have ntd : d ≠ t := fun z => by
    have := I.taken
    rw [← z, show H d = none from fd] at this
    cases this
  have aX : (upd X t (.frz od (.dK []))) a = _ := at_ne nat (sX _ _ I.obj)
  have dX : (upd X t (.frz od (.dK []))) d = some (.dK []) := at_ne ntd hX
  have fX : (upd X t (.frz od (.dK []))) t = some (.frz od (.dK [])) := upd_same
  walk_at "ss"
  refine g_iV ?_
  refine g_ifld ci rfl aX (by decide) rfl ?_
  refine ⟨t, od, [], rfl, fX, ?_⟩
  refine for_it (walk_vals (d := t) (o := od) (kvs := [])) (fun i σ H' => σ = [some (.ref a), some (.ref d), none, none, none, none, none] ∧ H' = upd X t (.frz od (.dK []))) ⟨rfl, rfl⟩ (fun i σ H' _ h => by rw [h.2]; exact fX) ?_ ?_
  · intro i x σ H' H2 hi
    exact absurd hi (Nat.not_lt_zero _)
  · rintro σ H' ⟨rfl, rfl⟩
    refine ⟨fX, ?_⟩
    have sG : Same H (upd (upd X t (.frz od (.dK []))) t (.dK [])) := sX.trans (unlock_same tX (Same.refl _))
    have dG : (upd (upd X t (.frz od (.dK []))) t (.dK [])) d = some (.dK []) := at_ne ntd dX
    generalize upd (upd X t (.frz od (.dK []))) t (.dK []) = G at sG dG ⊢
    walk_at "ss"
    refine ⟨d, _, dG, by trivial, fun od2 => ?_⟩
    have fG : (upd G d (.frz od2 (.dK []))) d = some (.frz od2 (.dK [])) := upd_same
    walk_at "ss"
    refine g_iI ?_
    refine ⟨_, rfl, d, od2, [], rfl, fG, ?_⟩
    refine lc_w (walk_items0 (d := d) (o := od2)) (fun _ => none) (by decide) (fun H' s' => s' _ _ fG) (fun D i x H5 H6 N hD hi => absurd hi (Nat.not_lt_zero _)) fun D H5 hD s5 h5 => ?_
    refine ⟨s5 _ _ fG, ?_⟩
    have nD : D ≠ d := by walk_at "ne"
    have sH : Same H (upd H5 d (.dK [])) := sG.trans (unlock_same dG s5)
    have hH : (upd H5 d (.dK [])) D = some (.lst []) := at_ne nD h5
    generalize upd H5 d (.dK []) = H6 at sH hH ⊢
    walk_at "ss"
    refine ⟨D, [], rfl, SqL.of hH, fun ys p pm so hp => ?_⟩
    obtain rfl := pm.eq_nil
    exact q p _ (sm_new hp sH) (fr_of hp sH) upd_same
def t_Inn_standing (K : PySem.W.Frag) : TS :=
  (tRet (tLc (iList K (Y.tSortItems0 (tFld K (tVar 0) "taken"))) (gTup K 2 (gCons (gName 1) (gCons (gTup K 3 (gCons (gName 2) (gCons (gName 3) (gCons (gName 4) gNil)))) gNil))) tYes (tTup (tCons (tVar 1) (tCons (tVar 2) (tCons (tVar 3) (tCons (tCB (rListOf K) (tCons (tVar 4) tNil)) tNil))))) [1, 2, 3, 4]))
theorem pure_Inn_standing {K : PySem.W.Frag} {v : V} {H : Hp} {Q : VK} {E : XK} (h : sp_Inn_standing K [v] H Q E) : t_Inn_standing K { nx := fun _ H' => Q .non H', rt := Q } [some v, none, none, none, none] H := by
  obtain ⟨v, e, ci, M, W, m, sh, pa, ⟨a, dx, s, t, p, ps, rfl, rfl, I⟩, q⟩ := h
  cases e
  unfold t_Inn_standing
  walk_at "ss"
  refine g_ifld ci rfl I.obj (by decide) rfl ?_
  refine ⟨t, rfl, I.taken, fun d hd => ?_⟩
  have sd : Same H (upd H d (.lst [])) := same_new hd
  refine ⟨d, rfl, ⟨[], SqL.of upd_same⟩, ?_⟩
  refine lc_flt (f := fun _ => none) (xs := []) (SqL.of upd_same) (by decide) (fun D i x N acc hD hi hx => by simp at hx) fun D hD => ?_
  walk_at "ss"
  exact q D _ (sm_new hD sd) (by walk_at "fr") upd_same
def t_Inn_rooms (K : PySem.W.Frag) : TS :=
  (tSeq (tAsg (tCB Y.rSortDI (tCons (tFld K (tVar 0) "taken") tNil)) (gName 1))
  (tRet (Y.tListZip0 K (tCons (tVar 1) (tCons (tCall (sp_dealt K) [] E0 (tCons (tLc (iList K (tVar 1)) (gName 2) tYes (tOp (rIxT K) (tDGet (tFld K (tVar 0) "taken") (tVar 2)) (tC (.int 0))) [2]) tNil)) tNil)))))
theorem pure_Inn_rooms {K : PySem.W.Frag} {v : V} {H : Hp} {Q : VK} {E : XK} (h : sp_Inn_rooms K [v] H Q E) : t_Inn_rooms K { nx := fun _ H' => Q .non H', rt := Q } [some v, none, none] H := by
  obtain ⟨v, e, ci, M, W, m, sh, pa, ⟨a, dx, s, t, p, ps, rfl, rfl, I⟩, q⟩ := h
  cases e
  unfold t_Inn_rooms
  walk_at "ss"
  refine g_ifld ci rfl I.obj (by decide) rfl ?_
  walk_at "ss"
  refine g_sortDI (F := fun _ => none) (m := []) ⟨[], [], I.taken, rfl, List.nodup_nil, fun j => trivial⟩ List.Pairwise.nil (by simp) (by decide) fun p1 hp1 => ?_
  have s1 : Same H (upd H p1 (.lst [])) := same_new hp1
  have h1 : (upd H p1 (.lst [])) p1 = some (.lst []) := upd_same
  have f1 : Fr H p1 := hp1
  rw [List.map_nil]
  generalize upd H p1 (.lst []) = G at s1 h1 ⊢
  walk_at "ss"
  unfold tListZip0
  walk_at "ss"
  refine lc_flt (f := fun _ => none) (xs := []) (SqL.of h1) (by decide) (fun D i x N acc hD hi hx => by simp at hx) fun D hD => ?_
  walk_at "ss"
  have s2 : Same G (upd G D (.lst [])) := same_new hD
  have h2 : (upd G D (.lst [])) D = some (.lst []) := upd_same
  rw [List.filterMap_nil]
  generalize upd G D (.lst []) = G2 at s2 h2 ⊢
  refine g_dealt (xs := []) (ps := []) (SqL.of h2) .nil (by decide) fun p4 H4 F s4 f4 h4 dF => ?_
  have e : F = [] := List.eq_nil_of_length_eq_zero dF.1
  subst e
  walk_at "ss"
  have s5 : Same H H4 := s1.trans (s2.trans s4)
  exact ⟨p1, p4, _, rfl, SqL.of (s4 _ _ (s2 _ _ h1)), SqL.of h4, fun p hp => q p _ (sm_new hp s5) (fr_of hp s5) upd_same⟩
/-! YNx: an inn's deeds, refused or done (no stay taken). -/
open PySem PySem.Spec PyProof.Rows L2
def spx_Inn_give_back (K : PySem.W.Frag) : Sp := Sp2 fun v y H Q E => CFI K ∧ exBare "NoTaken" K = true ∧ ∃ M W m sh pa k, InnAt K H M W v m sh pa ∧ y = .int k ∧ E (.ref (He.ga K "NoTaken")) none H
theorem gx_iback {K : PySem.W.Frag} {M W : List Addr} {v : V} {m k : Int} {sh : Shf} {pa : List Shf} {H : Hp} {Q : VK} {E : XK} (ci : CFI K) (cn : exBare "NoTaken" K = true) (I : InnAt K H M W v m sh pa) (x : E (.ref (He.ga K "NoTaken")) none H) : spx_Inn_give_back K (v :: ([.int k] ++ [])) H Q E := ⟨_, _, rfl, ci, cn, M, W, m, sh, pa, k, I, rfl, x⟩
def spx_Inn_tidy (K : PySem.W.Frag) : Sp := Sp2 fun v y H Q E => CFI K ∧ exBare "NoName" K = true ∧ ∃ M W m sh pa n, InnAt K H M W v m sh pa ∧ y = .str n ∧ lookS sh n = none ∧ E (.ref (He.ga K "NoName")) none H
theorem gx_itidy {K : PySem.W.Frag} {M W : List Addr} {v : V} {m : Int} {n : Str} {sh : Shf} {pa : List Shf} {H : Hp} {Q : VK} {E : XK} (ci : CFI K) (cn : exBare "NoName" K = true) (I : InnAt K H M W v m sh pa) (l : lookS sh n = none) (x : E (.ref (He.ga K "NoName")) none H) : spx_Inn_tidy K (v :: ([.str n] ++ [])) H Q E := ⟨_, _, rfl, ci, cn, M, W, m, sh, pa, n, I, rfl, l, x⟩
def spx_Inn_undo (K : PySem.W.Frag) : Sp := Sp1 fun v H Q E => CFI K ∧ exBare "NoDeed" K = true ∧ ∃ M W m sh pa, InnAt K H M W v m sh pa ∧ (pa = [] → ∀ H', Same H H' → E (.ref (He.ga K "NoDeed")) none H') ∧ (∀ pa' sh', pa = pa' ++ [sh'] → ∀ H' M', Kp M H H' → InnAt K H' M' W v m sh' pa' → (∀ x ∈ M', x ∈ M) → Q .non H')
theorem gx_iundo {K : PySem.W.Frag} {M W : List Addr} {v : V} {m : Int} {sh : Shf} {pa : List Shf} {H : Hp} {Q : VK} {E : XK} (ci : CFI K) (cn : exBare "NoDeed" K = true) (I : InnAt K H M W v m sh pa) (x : pa = [] → ∀ H', Same H H' → E (.ref (He.ga K "NoDeed")) none H') (q : ∀ pa' sh', pa = pa' ++ [sh'] → ∀ H' M', Kp M H H' → InnAt K H' M' W v m sh' pa' → (∀ x ∈ M', x ∈ M) → Q .non H') : spx_Inn_undo K (v :: ([] ++ [])) H Q E := ⟨_, rfl, ci, cn, M, W, m, sh, pa, I, x, q⟩
def spx_Inn_lay (K : PySem.W.Frag) : Sp := Sp3 fun v y z H Q E => CFI K ∧ CFR K ∧ CFB K ∧ exBare "NoName" K = true ∧ exInit "NoRule" "number" K = true ∧ exBare "TooMany" K = true ∧ ∃ M W m sh pa n p xs ds, InnAt K H M W v m sh pa ∧ y = .str n ∧ z = .ref p ∧ H p = some (.lst xs) ∧ Paired (At H []) xs ds ∧ ds.length ≤ 1000 ∧ pa.length ≤ 1000 ∧
  (lookS sh n = none → E (.ref (He.ga K "NoName")) none H) ∧
  (∀ rs, lookS sh n = some rs →
    (∀ (i : Nat) (d : PyData) (dd : Addr) H', ds[i]? = some d → asRule d = none → (∃ us, AllR (ds.take i) us) → Same H H' → H' dd = some (.xd [("number", .int (i : Nat))]) → E (.ref (He.ga K "NoRule")) (some dd) H') ∧
    (∀ us H', AllR ds us → (24 < us.length ∨ 24 < rs.length + us.length) → Same H H' → E (.ref (He.ga K "TooMany")) none H') ∧
    (∀ us H' M' W', AllR ds us → rs.length + us.length ≤ 24 → Kp M H H' → InnAt K H' M' W' v m (putS sh n (rs ++ us)) (pa ++ [sh]) → ((∀ x ∈ M', x ∈ M ∨ Fr H x) ∧ ∀ x ∈ W', x ∈ W ∨ Fr H x) → Q .non H'))
theorem asRule_good {d : PyData} {r : RuleD} (h : asRule d = some r) : r.good := by
  unfold asRule at h
  split at h
  · rename_i z f l d
    split at h
    · split at h
      · rename_i w hw c
        cases h
        rw [Bool.and_eq_true] at c
        obtain ⟨c1, c2⟩ := c
        have c1 : (isDay (.int f) && (isDay (.int l) && decide (f ≤ l))) = true := c1
        unfold isDay at c1
        simp at c1
        exact ⟨by dsimp only; omega, by dsimp only; omega, by dsimp only; omega, c2⟩
      · cases h
    · cases h
  · cases h
theorem allR_good {ds : List PyData} {us : List RuleD} (h : AllR ds us) : ∀ r ∈ us, RuleD.good r := fun r hr => by
  have : some r ∈ ds.map asRule := by rw [show ds.map asRule = us.map some from h]; exact List.mem_map_of_mem hr
  obtain ⟨d, -, e⟩ := List.mem_map.mp this
  exact asRule_good e
theorem shok_put {sh : Shf} {n : Str} {rs vs : List RuleD} (ok : ShOk sh) (hm : (n, rs) ∈ sh) (l : vs.length ≤ 24) (g : ∀ r ∈ vs, RuleD.good r) : ShOk (putS sh n vs) := by
  have e : putS sh n vs = sh.map fun e => if e.1 = n then (e.1, vs) else e := if_pos (List.any_eq_true.mpr ⟨_, hm, by simp⟩)
  rw [e]
  refine ⟨?_, fun e he => ?_, fun e he => ?_, by rw [List.length_map]; exact ok.few⟩
  · rw [List.map_map]
    have : ((fun x : Str × List RuleD => x.1) ∘ fun e : Str × List RuleD => if e.1 = n then (e.1, vs) else e) = fun e => e.1 := by
      funext e
      simp only [Function.comp]
      split <;> rfl
    rw [this]
    exact ok.nd
  · obtain ⟨u, hu, rfl⟩ := List.mem_map.mp he
    split
    · exact l
    · exact ok.len u hu
  · obtain ⟨u, hu, rfl⟩ := List.mem_map.mp he
    split
    · exact g
    · exact ok.good u hu
theorem g_gfld {K : PySem.W.Frag} {f : Str} {n : Nat} {v : V} {σ : L2.St} {H : Hp} {Q : L2.St → Hp → Prop} {a dx : Addr} {fs : List (Str × V)} (ci : CFI K) (h : σ[n]? = some (some (.ref a))) (o : H a = some (.ins (He.ga K "Inn") dx fs)) (m : f ∈ (["many", "shelf", "taken", "coming", "past"] : List Str)) (l : fs.length < 1000)
    (q : Q σ (upd H a (.ins (He.ga K "Inn") dx (putF f v fs)))) : gFld K (tVar n) f v σ H Q := ⟨_, h, a, _, dx, fs, rfl, o, ci.cls, ci.no m, l, q⟩
def x_Inn_give_back (K : PySem.W.Frag) (E : XK) : TS :=
  (tSeq (tIfS (tOr (tNot (tB (tCall (sp_is_whole K) [] E0 (tCons (tVar 1) tNil)))) (tB (tDNotIn (tVar 1) (tFld K (tVar 0) "taken"))))
  (tRaiseB K "NoTaken" (XW E))
  tNext)
  (tSeq (tDrop (tMeth (He.ga K "Inn") "keep" (sp_Inn_keep K) [] E0 (tVar 0) tNil))
  (tDrop (tDPop1 (tFld K (tVar 0) "taken") (tVar 1)))))
theorem purex_Inn_give_back {K : PySem.W.Frag} {v y : V} {H : Hp} {Q : VK} {E : XK} (h : spx_Inn_give_back K [v, y] H Q E) : x_Inn_give_back K E { nx := fun _ H' => Q .non H', rt := Q } [some v, some y] H := by
  obtain ⟨v, y, e, ci, cn, M, W, m, sh, pa, k, ⟨a, dx, s, t, p, ps, rfl, rfl, I⟩, rfl, x⟩ := h
  cases e
  unfold x_Inn_give_back
  with_reducible refine g_seq ?_
  walk_at "ss"
  refine ite_f rfl ?_
  walk_at "ss"
  refine g_ifld ci rfl I.obj (by decide) rfl ?_
  refine ⟨t, _, rfl, .inl ⟨[], .inl k, .inl I.taken, rfl, rfl⟩, _, rfl, ?_⟩
  refine ite_t rfl ?_
  exact ⟨cn, x⟩
def x_Inn_tidy (K : PySem.W.Frag) (E : XK) : TS :=
  (tSeq (tDrop (tMethX (He.ga K "Inn") "need_name" (spx_Inn_need_name K) [] (XW E) (tVar 0) (tCons (tVar 1) tNil)))
  (tSeq (tAsg (Y.tNeverE) (gName 2))
  (tSeq (tDrop (tMeth (He.ga K "Inn") "keep" (sp_Inn_keep K) [] E0 (tVar 0) tNil))
  (sDPut (tFld K (tVar 0) "shelf") (tVar 1) (tVar 2)))))
theorem purex_Inn_tidy {K : PySem.W.Frag} {v y : V} {H : Hp} {Q : VK} {E : XK} (h : spx_Inn_tidy K [v, y] H Q E) : x_Inn_tidy K E { nx := fun _ H' => Q .non H', rt := Q } [some v, some y, none] H := by
  obtain ⟨v, y, e, ci, cn, M, W, m, sh, pa, n, J, rfl, l, x⟩ := h
  cases e
  unfold x_Inn_tidy
  walk_at "ss"
  refine g_imethX (n := 0) rfl J (by decide) ?_
  walk_at "ss"
  exact gx_ineed ci cn J (fun z => absurd l z) fun _ => x
def x_Inn_undo (K : PySem.W.Frag) (E : XK) : TS :=
  (tSeq (tIfS (tTest (tOp (Y.rEqE K) (tFld K (tVar 0) "past") (tLst tNil)))
  (tRaiseB K "NoDeed" (XW E))
  tNext)
  (tAsg (tBM0 K "list" rPop (tFld K (tVar 0) "past")) (gTup K 3 (gCons (Y.gFld K (tVar 0) "shelf") (gCons (Y.gFld K (tVar 0) "taken") (gCons (Y.gFld K (tVar 0) "coming") gNil))))))
theorem purex_Inn_undo {K : PySem.W.Frag} {v : V} {H : Hp} {Q : VK} {E : XK} (h : spx_Inn_undo K [v] H Q E) : x_Inn_undo K E { nx := fun _ H' => Q .non H', rt := Q } [some v] H := by
  obtain ⟨v, e, ci, cn, M, W, m, sh, pa, ⟨a, dx, s, t, p, ps, rfl, rfl, I⟩, x, q⟩ := h
  cases e
  unfold x_Inn_undo
  with_reducible refine g_seq ?_
  walk_at "ss"
  refine g_ifld ci rfl I.obj (by decide) rfl ?_
  walk_at "ss"
  rename_i p' hp'
  refine ⟨p, p', _, rfl, rfl, SqL.of (at_new hp' I.past), SqL.of upd_same, ?_⟩
  have s1 : Same H (upd H p' (.lst [])) := same_new hp'
  generalize upd H p' (.lst []) = G at s1 ⊢
  refine ⟨_, rfl, ?_⟩
  rcases snoc_cases pa with rfl | ⟨pa', sh', rfl⟩
  · have e : ps = [] := List.eq_nil_of_length_eq_zero (Paired.length I.pas)
    subst e
    refine ite_t rfl ?_
    exact ⟨cn, x rfl _ s1⟩
  · obtain ⟨ps', ⟨q', s', t'⟩, rfl, P', hx'⟩ := Paired.snocR I.pas
    refine ite_df (by simp) ?_
    have I1 := I.same s1
    obtain ⟨hq, -, -⟩ := hx'
    have hq1 := s1 _ _ hq
    walk_at "ss"
    refine g_ifld ci rfl I1.obj (by decide) rfl ?_
    refine g_tyL (SqL.of I1.past) ?_
    walk_at "ss"
    have ep : ((ps' ++ [(q', s', t')]).map fun x => V.ref x.1) = (ps'.map fun x => V.ref x.1) ++ [.ref q'] := by rw [List.map_append]; rfl
    have hp1 := I1.past
    rw [ep] at hp1
    refine ⟨p, _, .ref q', rfl, rfl, hp1, by simp, ?_⟩
    rw [List.dropLast_concat]
    have nqp : q' ≠ p := fun z => by
      rw [show (q', s', t').1 = q' from rfl, z, hp1] at hq1
      cases hq1
    have nap : a ≠ p := fun z => by
      have := I1.obj
      rw [z, hp1] at this
      cases this
    have naq : a ≠ q' := fun z => by
      have := I1.obj
      rw [z, show G q' = _ from hq1] at this
      cases this
    refine ⟨q', _, rfl, SqT.of (at_ne nqp hq1), rfl, ?_⟩
    refine ⟨_, _, rfl, ?_⟩
    refine g_gfld ci rfl (at_ne nap I1.obj) (by decide) (show (5 : Nat) < 1000 by decide) ?_
    refine ⟨_, _, rfl, ?_⟩
    refine g_gfld (dx := dx) (fs := [("many", .int m), ("shelf", .ref s'), ("taken", .ref t), ("coming", .int 0), ("past", .ref p)]) ci rfl upd_same (by decide) (show (5 : Nat) < 1000 by decide) ?_
    refine ⟨_, _, rfl, ?_⟩
    refine g_gfld (dx := dx) (fs := [("many", .int m), ("shelf", .ref s'), ("taken", .ref t'), ("coming", .int 0), ("past", .ref p)]) ci rfl upd_same (by decide) (show (5 : Nat) < 1000 by decide) ?_
    refine ⟨rfl, ?_⟩
    obtain ⟨G2, e2⟩ : ∃ G2, G2 = upd (upd (upd (upd G p (.lst (ps'.map fun x => V.ref x.1))) a (.ins (He.ga K "Inn") dx (putF "shelf" (.ref s') [("many", .int m), ("shelf", .ref s), ("taken", .ref t), ("coming", .int 0), ("past", .ref p)]))) a (.ins (He.ga K "Inn") dx (putF "taken" (.ref t') [("many", .int m), ("shelf", .ref s'), ("taken", .ref t), ("coming", .int 0), ("past", .ref p)]))) a (.ins (He.ga K "Inn") dx (putF "coming" (.int 0) [("many", .int m), ("shelf", .ref s'), ("taken", .ref t'), ("coming", .int 0), ("past", .ref p)])) := ⟨_, rfl⟩
    have k2 : Kp [a, p] G G2 := fun b o e n => by
      rw [e2]
      have n1 : b ≠ a := fun z => n (by simp [z])
      have n2 : b ≠ p := fun z => n (by simp [z])
      exact at_ne n1 (at_ne n1 (at_ne n1 (at_ne n2 e)))
    have ga : G2 a = some (innO K dx s' t' p m) := by rw [e2]; exact upd_same
    have gp : G2 p = some (.lst (ps'.map fun x => V.ref x.1)) := by rw [e2]; exact at_ne nap.symm (at_ne nap.symm (at_ne nap.symm upd_same))
    show Q .non _
    rw [← e2]
    refine q pa' sh' rfl G2 (innF a s' t' p ps') (fun b o e n => k2 _ _ (s1 _ _ e) fun z => n ?_) (I1.pop k2 ga gp).in fun x hx => ?_
    · simp at z
      rcases z with rfl | rfl <;> simp [innF]
    · rw [innF_snoc]
      simp only [innF, List.mem_cons, List.mem_append, List.not_mem_nil, or_false] at hx ⊢
      rcases hx with h | h | h | h | h
      · exact .inl (.inl h)
      · exact .inr (.inl h)
      · exact .inr (.inr h)
      · exact .inl (.inr (.inr (.inr (.inl h))))
      · exact .inl (.inr (.inr (.inr (.inr h))))
def x_Inn_lay (K : PySem.W.Frag) (E : XK) : TS :=
  (tSeq (tDrop (tMethX (He.ga K "Inn") "need_name" (spx_Inn_need_name K) [] (XW E) (tVar 0) (tCons (tVar 1) tNil)))
  (tSeq (tAsg (tCallX (spx_laid K) [] (XW E) (tCons (tDGet (tFld K (tVar 0) "shelf") (tVar 1)) (tCons (tMakeX (He.ga K "Book") (spx_Book_init K) [] (XW E) (tCons (tVar 2) tNil)) tNil))) (gName 3))
  (tSeq (tDrop (tMeth (He.ga K "Inn") "keep" (sp_Inn_keep K) [] E0 (tVar 0) tNil))
  (sDPut (tFld K (tVar 0) "shelf") (tVar 1) (tVar 3)))))
theorem purex_Inn_lay {K : PySem.W.Frag} {v y z : V} {H : Hp} {Q : VK} {E : XK} (h : spx_Inn_lay K [v, y, z] H Q E) : x_Inn_lay K E { nx := fun _ H' => Q .non H', rt := Q } [some v, some y, some z, none] H := by
  obtain ⟨v, y, z, e, ci, c, cb, cn, ce, cm, M, W, m, sh, pa, n, p0, xs, ds, J, rfl, rfl, hp, hd, ld, lp, x, q⟩ := h
  cases e
  unfold x_Inn_lay
  walk_at "ss"
  refine g_imethX (n := 0) rfl J (by decide) ?_
  walk_at "ss"
  refine gx_ineed ci cn J (fun l => ?_) x
  obtain ⟨a, dx, s, t, p, ps, rfl, rfl, I⟩ := J
  obtain ⟨kvs, hs, hsh⟩ := I.shelf
  rcases sh_get n hsh with ⟨e, -⟩ | ⟨rs, v, F, e, hm, ev, b, fW⟩
  · exact absurd e l
  obtain ⟨q1, q2, q3⟩ := q rs e
  walk_at "ss"
  refine g_ifld ci rfl I.obj (by decide) rfl ?_
  walk_at "ss"
  refine ⟨s, v, rfl, .inl ⟨kvs, .inr n, .inl hs, rfl, ev.symm⟩, ?_⟩
  walk_at "ss"
  have ok1 := I.ok.len _ hm
  have ok2 := I.ok.good _ hm
  dsimp only at ok1 ok2
  refine g_mkBookX c cb ce cm rfl (.inr ⟨p0, rfl, SqL.of hp⟩) hd ld q1 (fun us H' a1 a2 s1 => q2 us H' a1 (.inl a2) s1) fun us u F2 H1 a1 a2 s1 b1 f1 => ?_
  have g1 := allR_good a1
  walk_at "ss"
  refine gx_laid c cb ce cm (bk_same s1 b) b1 ok1 a2 ok2 g1 (fun a3 H' s2 => q2 us H' a1 (.inr a3) (s1.trans s2)) fun a3 w F3 H2 s2 b3 f3 => ?_
  have s02 := s1.trans s2
  have I2 := I.same s02
  walk_at "ss"
  refine g_irobj I2.in (by decide) ?_
  walk_at "ss"
  refine g_ikeep ci I2.in lp fun H3 M3 k3 J3 m3 => ?_
  walk_at "ss"
  have nF3 : ∀ x ∈ F3, Fr H x := fun x hx => Same.free s1 (f3 x hx)
  have M3n : ∀ x ∈ M3, x ∉ F3 := fun x hx hF => by
    obtain ⟨o, ho⟩ := b3.known x hF
    rcases m3 x hx with h | h
    · obtain ⟨o', e', -⟩ := I.mem x h
      rw [show H x = none from nF3 x hF] at e'
      cases e'
    · rw [show H2 x = none from h] at ho
      cases ho
  have b4 : BookAt K H3 F3 w (rs ++ us) := bk_mut k3 I2.in.muts (fun x hx hm => by
    obtain ⟨o', e', -⟩ := I.mem x hm
    rw [show H x = none from nF3 x hx] at e'
    cases e') b3
  obtain ⟨a4, dx4, s4, t4, p4, ps4, ea, rfl, I4⟩ := J3
  cases ea
  obtain ⟨kv4, hs4, hsh4⟩ := I4.shelf
  refine g_ifld ci rfl I4.obj (by decide) rfl ?_
  walk_at "ss"
  have kl := sh_len hsh4
  have fw := I.ok.few
  refine ⟨s4, _, rfl, .inl ⟨kv4, .inr n, hs4, rfl, by rw [sizeLine_eq]; omega, rfl⟩, ?_⟩
  refine q3 us _ (innF a s4 t4 p4 ps4) (W ++ F3) a1 a3 ?_ (I4.lay hs4 b4 (fun x hx hm => M3n x hm hx) ?_).in ⟨fun x hx => ?_, fun x hx => ?_⟩
  · intro b' o e0 nb
    have e2 := s02 _ _ e0
    have e3 := k3 _ _ e2 nb
    refine at_ne (fun z => ?_) e3
    rcases m3 s4 (by simp [innF]) with h | h
    · exact nb (z ▸ h)
    · rw [z, show H2 s4 = none from h] at e2
      cases e2
  · exact shok_put I.ok hm (by rw [List.length_append]; exact a3) (gd_app ok2 g1)
  · rcases m3 x hx with h | h
    · exact .inl h
    · exact .inr (Same.free s02 h)
  · rcases List.mem_append.mp hx with hx | hx
    · exact .inl hx
    · exact .inr (nF3 x hx)
/-! YNi: an inn made. -/
open PySem PySem.Spec PyProof.Rows L2
/-- a pair (name, list of rules) -/
def NrAt (H : Hp) (v : V) (e : Str × List RuleD) : Prop := ∃ t q xs, v = .ref t ∧ H t = some (.tup [.str e.1, .ref q]) ∧ H q = some (.lst xs) ∧ Rus H xs e.2
/-- a pair (name, list of things) -/
def NdAt (H : Hp) (L : List Addr) (v : V) (e : Str × List PyData) : Prop := ∃ t q xs, v = .ref t ∧ H t = some (.tup [.str e.1, .ref q]) ∧ q ∉ L ∧ H q = some (.lst xs) ∧ Paired (At H L) xs e.2
theorem nr_keep {H H' : Hp} {L : List Addr} {v : V} {e : Str × List RuleD} (k : Kp L H H') (tk : Tk H H') (n : ∀ t q, v = .ref t → H t = some (.tup [.str e.1, .ref q]) → q ∉ L) (h : NrAt H v e) : NrAt H' v e := by
  obtain ⟨t, q, xs, rfl, h1, h2, h3⟩ := h
  exact ⟨t, q, xs, rfl, tk _ _ h1, k _ _ h2 (n t q rfl h1), h3.tk tk⟩
theorem kp_ins {H H' : Hp} {a C dx : Addr} {fs : List (Str × V)} (k : Kp [a] H H') (ha : H a = some (.ins C dx fs)) {b : Addr} {o : HO} (e : H b = some o) (n : ∀ C dx fs, o ≠ .ins C dx fs) : H' b = some o := k _ _ e fun z => by
  rw [List.mem_singleton.mp z, ha] at e
  exact n _ _ _ (Option.some.inj e).symm
theorem nr_ins {H H' : Hp} {a C dx : Addr} {fs : List (Str × V)} {v : V} {e : Str × List RuleD} (k : Kp [a] H H') (ha : H a = some (.ins C dx fs)) (h : NrAt H v e) : NrAt H' v e := by
  obtain ⟨t, q, xs, rfl, h1, h2, h3⟩ := h
  exact ⟨t, q, xs, rfl, kp_ins k ha h1 (by simp), kp_ins k ha h2 (by simp), h3.tk fun b ys e => kp_ins k ha e (by simp)⟩
theorem fun_upd_none {H : Hp} {a s : Addr} {o : HO} (h : upd H a o s = none) (n : s ≠ a) : Fr H s := by
  rw [upd_ne n] at h
  exact h
theorem putS_snoc {sh : Shf} {n : Str} {rs : List RuleD} (h : n ∉ sh.map (·.1)) : putS sh n rs = sh ++ [(n, rs)] := by
  unfold putS
  rw [if_neg]
  rw [List.any_eq_true]
  rintro ⟨e, he, z⟩
  exact h (List.mem_map.mpr ⟨e, he, of_decide_eq_true z⟩)
theorem g_dput {td ty tv : TE} {D : Ends} {σ : L2.St} {H : Hp} (q : tv σ H fun v H1 => td σ H1 fun x H2 => ty σ H2 fun y H3 => ∃ a H4, x = .ref a ∧ DPut H3 a y v H4 ∧ D.nx σ H4) : sDPut td ty tv D σ H := q
def sp_Inn_init (K : PySem.W.Frag) : Sp := Sp3 fun v x y H Q E => CFI K ∧ CFR K ∧ CFB K ∧ ∃ (a dx : Addr) (m : Int) (p : Addr) (xs : List V) (sh : Shf), v = .ref a ∧ H a = some (.ins (He.ga K "Inn") dx []) ∧ x = .int m ∧ y = .ref p ∧ H p = some (.lst xs) ∧ Paired (NrAt H) xs sh ∧ ShOk sh ∧
  ∀ H' M W, Kp [a] H H' → InnAt K H' M W (.ref a) m sh [] → (∀ x ∈ M, x = a ∨ Fr H x) → (∀ x ∈ W, Fr H x) → Q .non H'
theorem g_mkInn {K : PySem.W.Frag} {E : XK} {H : Hp} {Q : VK} {m : Int} {p : Addr} {xs : List V} {sh : Shf} (ci : CFI K) (c : CFR K) (cb : CFB K) (hS : H p = some (.lst xs)) (hN : Paired (NrAt H) xs sh) (ok : ShOk sh)
    (q : ∀ v H' M W, Same H H' → InnAt K H' M W v m sh [] → (∀ x ∈ M ++ W, Fr H x) → Q v H') : rMake (He.ga K "Inn") (sp_Inn_init K) [] E [.int m, .ref p] H Q := by
  intro a dx ha hd hne
  have h1 : upd H dx (.own a) a = none := by rw [upd_ne hne.symm]; exact ha
  have sm : Same H (upd (upd H dx (.own a)) a (.ins (He.ga K "Inn") dx [])) := (same_new hd).trans (same_new h1)
  refine ⟨_, _, _, rfl, ci, c, cb, a, dx, m, p, xs, sh, rfl, upd_same, rfl, rfl, sm _ _ hS, Paired.mapP hN fun _ _ h => nr_keep (Same.kp sm []) (Same.tk sm) (fun _ _ _ _ => by simp) h, ok, fun H' M W k I f g => ⟨rfl, q _ H' M W (fun b o e => k _ _ (sm _ _ e) fun z => ?_) I fun x hx => ?_⟩⟩
  · rw [List.mem_singleton.mp z, ha] at e
    cases e
  · rcases List.mem_append.mp hx with hx | hx
    · rcases f x hx with rfl | f
      · exact ha
      · exact Same.free sm f
    · exact Same.free sm (g x hx)
def madeB (ds : List PyData) : Prop := ∃ rs, AllR ds rs ∧ rs.length ≤ 24
/-- the first pair whose book is refused refuses all -/
def spx_Inn_init (K : PySem.W.Frag) : Sp := Sp3 fun v x y H Q E => CFI K ∧ CFR K ∧ CFB K ∧ exInit "NoRule" "number" K = true ∧ exBare "TooMany" K = true ∧ ∃ (a dx : Addr) (m : Int) (p : Addr) (xs : List V) (ps : List (Str × List PyData)), v = .ref a ∧ H a = some (.ins (He.ga K "Inn") dx []) ∧ x = .int m ∧ y = .ref p ∧ H p = some (.lst xs) ∧ Paired (NdAt H [a]) xs ps ∧ (∀ e ∈ ps, e.2.length ≤ 1000) ∧ ps.length ≤ 1000 ∧
  (∀ (k : Nat) (e : Str × List PyData) (i : Nat) (d : PyData) (dd : Addr) H', ps[k]? = some e → (∀ u ∈ ps.take k, madeB u.2) → e.2[i]? = some d → asRule d = none → (∃ rs, AllR (e.2.take i) rs) → Kp [a] H H' → H' dd = some (.xd [("number", .int (i : Nat))]) → E (.ref (He.ga K "NoRule")) (some dd) H') ∧
  (∀ (k : Nat) (e : Str × List PyData) rs H', ps[k]? = some e → (∀ u ∈ ps.take k, madeB u.2) → AllR e.2 rs → 24 < rs.length → Kp [a] H H' → E (.ref (He.ga K "TooMany")) none H') ∧
  ((∀ u ∈ ps, madeB u.2) → ∀ H', Kp [a] H H' → Q .non H')
theorem gx_mkInn {K : PySem.W.Frag} {E : XK} {H : Hp} {Q : VK} {m : Int} {p : Addr} {xs : List V} {ps : List (Str × List PyData)} (ci : CFI K) (c : CFR K) (cb : CFB K) (cn : exInit "NoRule" "number" K = true) (cm : exBare "TooMany" K = true) (hS : H p = some (.lst xs)) (hN : Paired (NdAt H []) xs ps) (l1 : ∀ e ∈ ps, e.2.length ≤ 1000) (l2 : ps.length ≤ 1000)
    (q1 : ∀ (k : Nat) (e : Str × List PyData) (i : Nat) (d : PyData) (dd : Addr) H', ps[k]? = some e → (∀ u ∈ ps.take k, madeB u.2) → e.2[i]? = some d → asRule d = none → (∃ rs, AllR (e.2.take i) rs) → Same H H' → H' dd = some (.xd [("number", .int (i : Nat))]) → E (.ref (He.ga K "NoRule")) (some dd) H')
    (q2 : ∀ (k : Nat) (e : Str × List PyData) rs H', ps[k]? = some e → (∀ u ∈ ps.take k, madeB u.2) → AllR e.2 rs → 24 < rs.length → Same H H' → E (.ref (He.ga K "TooMany")) none H')
    (q : (∀ u ∈ ps, madeB u.2) → ∀ v H', Same H H' → Q v H') : rMake (He.ga K "Inn") (spx_Inn_init K) [] E [.int m, .ref p] H Q := by
  intro a dx ha hd hne
  have h1 : upd H dx (.own a) a = none := by rw [upd_ne hne.symm]; exact ha
  have sm : Same H (upd (upd H dx (.own a)) a (.ins (He.ga K "Inn") dx [])) := (same_new hd).trans (same_new h1)
  have sk : ∀ H', Kp [a] (upd (upd H dx (.own a)) a (.ins (He.ga K "Inn") dx [])) H' → Same H H' := fun H' k b o e => k _ _ (sm _ _ e) fun z => by
    rw [List.mem_singleton.mp z, ha] at e
    cases e
  have kn : ∀ b o, H b = some o → b ∉ [a] := fun b o e z => by
    rw [List.mem_singleton.mp z, ha] at e
    cases e
  refine ⟨_, _, _, rfl, ci, c, cb, cn, cm, a, dx, m, p, xs, ps, rfl, upd_same, rfl, rfl, sm _ _ hS, Paired.mapP hN fun _ _ ⟨t, q, ys, e1, e2, _, e3, e4⟩ => ⟨t, q, ys, e1, sm _ _ e2, kn _ _ e3, sm _ _ e3, Paired.mapP e4 fun _ _ r => (r.same sm).add fun xs => ⟨by rw [upd_same]; simp, by rw [upd_same]; simp⟩⟩, l1, l2, fun k e i d dd H' a1 a2 a3 a4 a5 a6 a7 => q1 k e i d dd H' a1 a2 a3 a4 a5 (sk H' a6) a7, fun k e rs H' a1 a2 a3 a4 a5 => q2 k e rs H' a1 a2 a3 a4 (sk H' a5), fun a1 H' a2 => ⟨rfl, q a1 _ H' (sk H' a2)⟩⟩
def t_Inn_init (K : PySem.W.Frag) : TS :=
  (tSeq (sFld K (tVar 0) (tVar 1) "many")
  (tSeq (sFld K (tVar 0) tDNewK "shelf")
  (tSeq (tFor (iList K (tVar 2)) (gTup K 2 (gCons (gName 3) (gCons (gName 4) gNil)))
  (sDPut (tFld K (tVar 0) "shelf") (tVar 3) (tMake (He.ga K "Book") (sp_Book_init K) [] E0 (tCons (tVar 4) tNil))))
  (tSeq (sFld K (tVar 0) tDNewK "taken")
  (tSeq (sFld K (tVar 0) (tC (.int 0)) "coming")
  (sFld K (tVar 0) (tLst tNil) "past"))))))
theorem pure_Inn_init {K : PySem.W.Frag} {v x y : V} {H : Hp} {Q : VK} {E : XK} (h : sp_Inn_init K [v, x, y] H Q E) : t_Inn_init K { nx := fun _ H' => Q .non H', rt := Q } [some v, some x, some y, none, none] H := by
  obtain ⟨v, x, y, e, ci, c, cb, a, dx, m, p, xs, sh, rfl, ho, rfl, rfl, hS, hN, ok, q⟩ := h
  cases e
  unfold t_Inn_init
  with_reducible refine g_seq ?_
  refine g_sFld ?_
  walk_at "ss"
  refine g_iset ci ho (by decide) (by decide) ?_
  with_reducible refine g_seq ?_
  refine g_sFld ?_
  refine fun s hs => ?_
  have hs0 : Fr H s := by
    refine fun_upd_none hs ?_
    rintro rfl
    rw [upd_same] at hs
    cases hs
  walk_at "ss"
  refine g_iset (dx := dx) (fs := [("many", .int m)]) ci (at_new hs upd_same) (by decide) (show (1 : Nat) < 1000 by decide) ?_
  obtain ⟨G, eG⟩ : ∃ G, G = upd (upd (upd H a (.ins (He.ga K "Inn") dx (putF "many" (.int m) []))) s (.dK [])) a (.ins (He.ga K "Inn") dx (putF "shelf" (.ref s) [("many", .int m)])) := ⟨_, rfl⟩
  have nas : s ≠ a := (ne_of_none ho hs0).symm
  have k0 : Kp [a] H G := fun b o e n => by
    rw [eG]
    have nb : b ≠ a := fun z => n (by simp [z])
    exact at_ne nb (at_ne (ne_of_none e hs0) (at_ne nb e))
  have oa : G a = some (.ins (He.ga K "Inn") dx [("many", .int m), ("shelf", .ref s)]) := by rw [eG]; exact upd_same
  have os : G s = some (.dK []) := by rw [eG]; exact at_ne nas upd_same
  rw [← eG]
  clear eG hs
  walk_at "ss"
  have lN := Paired.length hN
  have kseq : ∀ {H' : Hp}, Kp [a] H H' → H' p = some (.lst xs) := fun {H'} k => kp_ins k ho hS (by simp)
  refine ⟨p, rfl, ⟨_, SqL.of (kseq k0)⟩, ?_⟩
  refine for_list (K := K) (a := p) (xs := xs) (fun i σ H' => ∃ v3 v4 kvs W, σ = [some (.ref a), some (.int m), some (.ref p), v3, v4] ∧ Kp [a] H H' ∧ H' a = some (.ins (He.ga K "Inn") dx [("many", .int m), ("shelf", .ref s)]) ∧ H' s = some (.dK kvs) ∧ ShAt K H' W kvs (sh.take i) ∧ (∀ x ∈ W, Fr H x ∧ x ≠ s ∧ ∃ o, H' x = some o))
    ⟨_, _, [], [], rfl, k0, oa, os, .nil, by simp⟩ (fun i σ H' _ h => by obtain ⟨_, _, _, _, _, h, _⟩ := h; exact SqL.of (kseq h)) ?_ ?_
  · clear k0 oa os
    rintro i x σ H' hi ⟨v3, v4, kvs, W, rfl, k, oa, os, sa, hW⟩
    obtain ⟨⟨n, rs⟩, hn, hx⟩ := Paired.getL hN hi
    obtain ⟨t, q', ys, rfl, ht, hq, hR⟩ := nr_ins k ho hx
    dsimp only at ht hR
    have li := List.mem_of_getElem? hn
    walk_at "ss"
    try refine g_dput ?_
    walk_at "ss"
    refine g_mkBook c cb rfl (.inr ⟨q', rfl, SqL.of hq⟩) hR (ok.len _ li) (ok.good _ li) fun v F H5 s5 b5 f5 => ?_
    refine g_ifld ci rfl (s5 _ _ oa) (by decide) rfl ?_
    walk_at "ss"
    have kl := sh_len sa
    have os5 := s5 _ _ os
    refine ⟨s, _, rfl, .inl ⟨kvs, .inr n, os5, rfl, ?_, rfl⟩, ?_⟩
    · have := ok.few
      rw [List.length_take] at kl
      rw [sizeLine_eq]
      omega
    have nF : ∀ x ∈ F, Fr H x ∧ x ≠ s ∧ ∃ o, H5 x = some o := fun x hx => by
      have fx := f5 x hx
      have nx : x ≠ s := (ne_of_none os fx).symm
      have na : x ≠ a := (ne_of_none oa fx).symm
      refine ⟨?_, nx, b5.known x hx⟩
      show H x = none
      cases e : H x with
      | none => rfl
      | some o =>
        have := k _ _ e (by simp [na])
        rw [show H' x = none from fx] at this
        cases this
    have nodup := ok.nd
    have e1 : putS (sh.take i) n rs = sh.take (i + 1) := by
      rw [List.take_add_one, hn, putS_snoc]
      · rfl
      · rw [List.map_take]
        intro z
        obtain ⟨j, hj, ej⟩ := List.getElem_of_mem z
        rw [List.length_take] at hj
        rw [List.getElem_take] at ej
        have hi' : i < (sh.map (·.1)).length := by rw [List.length_map]; exact (List.getElem?_eq_some_iff.mp hn).1
        have := (List.pairwise_iff_getElem.mp nodup) j i (by omega) hi' (by omega)
        rw [ej, List.getElem_map, (List.getElem?_eq_some_iff.mp hn).2] at this
        exact this rfl
    have kS : Kp [s] H5 (upd H5 s (.dK (putK kvs (.inr n) v))) := kp_upd (by simp)
    have mu : Muts H5 [s] := fun x hx o e => by
      rw [List.mem_singleton.mp hx, os5] at e
      cases e
      exact .inr (.inl ⟨_, rfl⟩)
    have all : ∀ x ∈ W ++ F, Fr H x ∧ x ≠ s ∧ ∃ o, H5 x = some o := fun x hx => by
      rcases List.mem_append.mp hx with hx | hx
      · obtain ⟨h1, h2, o, h3⟩ := hW x hx
        exact ⟨h1, h2, o, s5 _ _ h3⟩
      · exact nF x hx
    refine ⟨_, _, _, W ++ F, rfl, fun b o e nb => ?_, at_ne nas.symm (s5 _ _ oa), upd_same, ?_, fun x hx => ?_⟩
    · exact at_ne (ne_of_none e hs0) (s5 _ _ (k _ _ e nb))
    · rw [← e1]
      exact (sh_put b5 (fun x hx => List.mem_append_right _ hx) n ((sa.mut (Same.kp s5 []) muts_nil fun x _ => by simp).wide fun x hx => List.mem_append_left _ hx)).mut kS mu fun x hx z => (all x hx).2.1 (List.mem_singleton.mp z)
    · obtain ⟨h1, h2, o, h3⟩ := all x hx
      exact ⟨h1, h2, o, at_ne h2 h3⟩
  · rintro σ H' ⟨v3, v4, kvs, W, rfl, k, oa, os, sa, hW⟩
    rw [List.take_of_length_le (by omega)] at sa
    dsimp only
    with_reducible refine g_seq ?_
    refine g_sFld ?_
    refine fun t ht => ?_
    have nta : a ≠ t := ne_of_none oa ht
    have nts : s ≠ t := ne_of_none os ht
    have ft : Fr H t := fr_kp ht k (by simp [nta.symm])
    walk_at "ss"
    refine g_iset ci (at_new ht oa) (by decide) (show (2 : Nat) < 1000 by decide) ?_
    with_reducible refine g_seq ?_
    refine g_sFld ?_
    walk_at "ss"
    refine g_iset (fs := [("many", .int m), ("shelf", .ref s), ("taken", .ref t)]) ci upd_same (by decide) (show (3 : Nat) < 1000 by decide) ?_
    dsimp only
    refine g_sFld ?_
    walk_at "ss"
    rename_i p' hp'
    refine g_iset (fs := [("many", .int m), ("shelf", .ref s), ("taken", .ref t), ("coming", .int 0)]) ci (at_new hp' upd_same) (by decide) (show (4 : Nat) < 1000 by decide) ?_
    have npa : p' ≠ a := (ne_of_none upd_same hp').symm
    have npt : p' ≠ t := (ne_of_none (o := .dK []) (at_ne nta.symm (at_ne nta.symm upd_same)) hp').symm
    have nps : p' ≠ s := (ne_of_none (o := .dK kvs) (at_ne nas (at_ne nas (at_ne nts os))) hp').symm
    have fp' : Fr H' p' := fun_upd_none (fun_upd_none (fun_upd_none hp' npa) npa) npt
    have fp : Fr H p' := fr_kp fp' k (by simp [npa])
    obtain ⟨G, eG⟩ : ∃ G, G = upd (upd (upd (upd (upd H' t (.dK [])) a (.ins (He.ga K "Inn") dx (putF "taken" (.ref t) [("many", .int m), ("shelf", .ref s)]))) a (.ins (He.ga K "Inn") dx (putF "coming" (.int 0) [("many", .int m), ("shelf", .ref s), ("taken", .ref t)]))) p' (.lst [])) a (.ins (He.ga K "Inn") dx (putF "past" (.ref p') [("many", .int m), ("shelf", .ref s), ("taken", .ref t), ("coming", .int 0)])) := ⟨_, rfl⟩
    rw [← eG]
    have kG : Kp [a] H' G := fun b o e n => by
      rw [eG]
      have nb : b ≠ a := fun z => n (by simp [z])
      exact at_ne nb (at_ne (ne_of_none e fp') (at_ne nb (at_ne nb (at_ne (ne_of_none e ht) e))))
    have ga : G a = some (innO K dx s t p' m) := by rw [eG]; exact upd_same
    have gp : G p' = some (.lst []) := by rw [eG]; exact at_ne npa upd_same
    have gt : G t = some (.dK []) := by rw [eG]; exact at_ne nta.symm (at_ne npt.symm (at_ne nta.symm (at_ne nta.symm upd_same)))
    have gs : G s = some (.dK kvs) := kG _ _ os (by simp [nas])
    clear eG
    have mu : Muts H' [a] := fun x hx o e => by
      rw [List.mem_singleton.mp hx, oa] at e
      cases e
      exact .inr (.inr ⟨_, _, _, _, rfl⟩)
    have wa : ∀ x ∈ W, x ∉ [a] := fun x hx z => absurd (List.mem_singleton.mp z) (ne_of_none ho (hW x hx).1).symm
    refine q G (innF a s t p' []) W (k.trans kG) ⟨a, dx, s, t, p', [], rfl, rfl, ga, ⟨kvs, gs, sa.mut kG mu wa⟩, gt, gp, .nil, ?_, fun x hx z => ?_, fun x hx => ?_, ok, by simp⟩ (fun x hx => ?_) fun x hx => (hW x hx).1
    · simp [innF, nas.symm, nta, npa.symm, nts, nps.symm, npt.symm]
    · obtain ⟨h1, h2, o, h3⟩ := hW x hx
      simp [innF] at z
      rcases z with z | z | z | z
      · exact wa x hx (by simp [z])
      · exact h2 z
      · rw [z, ht] at h3; cases h3
      · rw [z, show H' p' = none from fp'] at h3; cases h3
    · obtain ⟨h1, h2, o, h3⟩ := hW x hx
      exact ⟨o, kG _ _ h3 (wa x hx)⟩
    · simp [innF] at hx
      rcases hx with rfl | rfl | rfl | rfl
      · exact .inl rfl
      · exact .inr hs0
      · exact .inr ft
      · exact .inr fp
def x_Inn_init (K : PySem.W.Frag) (E : XK) : TS :=
  (tSeq (sFld K (tVar 0) (tVar 1) "many")
  (tSeq (sFld K (tVar 0) tDNewK "shelf")
  (tSeq (tFor (iList K (tVar 2)) (gTup K 2 (gCons (gName 3) (gCons (gName 4) gNil)))
  (sDPut (tFld K (tVar 0) "shelf") (tVar 3) (tMakeX (He.ga K "Book") (spx_Book_init K) [] (XW E) (tCons (tVar 4) tNil))))
  (tSeq (sFld K (tVar 0) tDNewK "taken")
  (tSeq (sFld K (tVar 0) (tC (.int 0)) "coming")
  (sFld K (tVar 0) (tLst tNil) "past"))))))
theorem purex_Inn_init {K : PySem.W.Frag} {v x y : V} {H : Hp} {Q : VK} {E : XK} (h : spx_Inn_init K [v, x, y] H Q E) : x_Inn_init K E { nx := fun _ H' => Q .non H', rt := Q } [some v, some x, some y, none, none] H := by
  obtain ⟨v, x, y, e, ci, c, cb, cn, cm, a, dx, m, p, xs, ps, rfl, ho, rfl, rfl, hS, hN, l1, l2, q1, q2, q⟩ := h
  cases e
  unfold x_Inn_init
  with_reducible refine g_seq ?_
  refine g_sFld ?_
  walk_at "ss"
  refine g_iset ci ho (by decide) (by decide) ?_
  with_reducible refine g_seq ?_
  refine g_sFld ?_
  refine fun s hs => ?_
  have hs0 : Fr H s := by
    refine fun_upd_none hs ?_
    rintro rfl
    rw [upd_same] at hs
    cases hs
  walk_at "ss"
  refine g_iset (dx := dx) (fs := [("many", .int m)]) ci (at_new hs upd_same) (by decide) (show (1 : Nat) < 1000 by decide) ?_
  obtain ⟨G, eG⟩ : ∃ G, G = upd (upd (upd H a (.ins (He.ga K "Inn") dx (putF "many" (.int m) []))) s (.dK [])) a (.ins (He.ga K "Inn") dx (putF "shelf" (.ref s) [("many", .int m)])) := ⟨_, rfl⟩
  have nas : s ≠ a := (ne_of_none ho hs0).symm
  have k0 : Kp [a] H G := fun b o e n => by
    rw [eG]
    have nb : b ≠ a := fun z => n (by simp [z])
    exact at_ne nb (at_ne (ne_of_none e hs0) (at_ne nb e))
  have oa : G a = some (.ins (He.ga K "Inn") dx [("many", .int m), ("shelf", .ref s)]) := by rw [eG]; exact upd_same
  have os : G s = some (.dK []) := by rw [eG]; exact at_ne nas upd_same
  rw [← eG]
  clear eG hs
  walk_at "ss"
  have lN := Paired.length hN
  have kseq : ∀ {H' : Hp}, Kp [a] H H' → H' p = some (.lst xs) := fun {H'} k => kp_ins k ho hS (by simp)
  refine ⟨p, rfl, ⟨_, SqL.of (kseq k0)⟩, ?_⟩
  refine for_list (K := K) (a := p) (xs := xs) (fun i σ H' => ∃ v3 v4 kvs, σ = [some (.ref a), some (.int m), some (.ref p), v3, v4] ∧ Kp [a] H H' ∧ H' a = some (.ins (He.ga K "Inn") dx [("many", .int m), ("shelf", .ref s)]) ∧ H' s = some (.dK kvs) ∧ kvs.length ≤ i ∧ ∀ u ∈ ps.take i, madeB u.2)
    ⟨_, _, [], rfl, k0, oa, os, Nat.le_refl _, by simp⟩ (fun i σ H' _ h => by obtain ⟨_, _, _, _, h, _⟩ := h; exact SqL.of (kseq h)) ?_ ?_
  · clear k0 oa os
    rintro i x σ H' hi ⟨v3, v4, kvs, rfl, k, oa, os, kl, hm⟩
    obtain ⟨⟨n, ds⟩, hn, hx⟩ := Paired.getL hN hi
    obtain ⟨t, q', ys, rfl, ht, nq, hq, hR⟩ := hx
    have ht := kp_ins k ho ht (by simp)
    have hq := k _ _ hq nq
    have hR : Paired (At H' []) ys ds := Paired.mapP hR fun _ _ r => (r.kp k).nil
    dsimp only at ht
    have li := List.mem_of_getElem? hn
    have li' := (List.getElem?_eq_some_iff.mp hi).1
    walk_at "ss"
    try refine g_dput ?_
    walk_at "ss"
    refine g_mkBookX c cb cn cm rfl (.inr ⟨q', rfl, SqL.of hq⟩) hR (l1 _ li) (fun j d dd H5 a1 a2 a3 s5 a5 => ?_) (fun rs H5 a1 a2 s5 => ?_) fun rs v F H5 a1 a2 s5 b5 f5 => ?_
    · exact q1 i _ j d dd H5 hn hm a1 a2 a3 (k.trans (Same.kp s5 _)) a5
    · exact q2 i _ rs H5 hn hm a1 a2 (k.trans (Same.kp s5 _))
    refine g_ifld ci rfl (s5 _ _ oa) (by decide) rfl ?_
    walk_at "ss"
    have os5 := s5 _ _ os
    refine ⟨s, _, rfl, .inl ⟨kvs, .inr n, os5, rfl, by rw [sizeLine_eq]; omega, rfl⟩, ?_⟩
    have lp := length_putK kvs (.inr n) v
    refine ⟨_, _, _, rfl, fun b o e nb => at_ne (ne_of_none e hs0) (s5 _ _ (k _ _ e nb)), at_ne nas.symm (s5 _ _ oa), upd_same, by omega, fun u hu => ?_⟩
    rw [List.take_add_one, hn] at hu
    rcases List.mem_append.mp hu with hu | hu
    · exact hm u hu
    · simp at hu
      rw [hu]
      exact ⟨rs, a1, a2⟩
  · rintro σ H' ⟨v3, v4, kvs, rfl, k, oa, os, kl, hm⟩
    rw [List.take_of_length_le (by omega)] at hm
    dsimp only
    with_reducible refine g_seq ?_
    refine g_sFld ?_
    refine fun t ht => ?_
    walk_at "ss"
    refine g_iset ci (at_new ht oa) (by decide) (show (2 : Nat) < 1000 by decide) ?_
    with_reducible refine g_seq ?_
    refine g_sFld ?_
    walk_at "ss"
    refine g_iset (fs := [("many", .int m), ("shelf", .ref s), ("taken", .ref t)]) ci upd_same (by decide) (show (3 : Nat) < 1000 by decide) ?_
    dsimp only
    refine g_sFld ?_
    walk_at "ss"
    rename_i p' hp'
    refine g_iset (fs := [("many", .int m), ("shelf", .ref s), ("taken", .ref t), ("coming", .int 0)]) ci (at_new hp' upd_same) (by decide) (show (4 : Nat) < 1000 by decide) ?_
    have npa : p' ≠ a := (ne_of_none upd_same hp').symm
    have nta : a ≠ t := ne_of_none oa ht
    refine q hm _ fun b o e n => ?_
    have nb : b ≠ a := fun z => n (by simp [z])
    have e' := k _ _ e n
    have nbt : b ≠ t := ne_of_none e' ht
    have e2 := at_ne (u := .ins (He.ga K "Inn") dx (putF "coming" (.int 0) [("many", .int m), ("shelf", .ref s), ("taken", .ref t)])) nb (at_ne (u := .ins (He.ga K "Inn") dx (putF "taken" (.ref t) [("many", .int m), ("shelf", .ref s)])) nb (at_ne (u := .dK []) nbt e'))
    exact at_ne nb (at_ne (ne_of_none e2 hp') e2)
/-! YOk: texts whose signs are signs; texts within data. -/
open PySem PySem.Spec PyProof.Rows L2
/-- what is shown of it is a text -/
def Sok (d : PyData) : Prop := PyData.strOk d.shown = true
/-! YB: what is a day, a stretch, coins, nights. -/
open PySem PySem.Spec PyProof.Rows L2
theorem ats2 {H : Hp} {L : List Addr} {xs : List V} {ds : List PyData} (r : Ats H L xs ds) (h : xs.length = 2) : ∃ x y a b, xs = [x, y] ∧ ds = [a, b] ∧ At H L x a ∧ At H L y b := by
  match xs, ds, r, h with
  | [x, y], [a, b], .cons h1 (.cons h2 .nil), _ => exact ⟨x, y, a, b, rfl, rfl, h1, h2⟩
def t_is_whole (K : PySem.W.Frag) : TS :=
  (tRet (tAndV (tCB (rIsi K) (tCons (tVar 0) (tCons (tC (.ty "int")) tNil))) (tNotV (tCB (rIsi K) (tCons (tVar 0) (tCons (tC (.ty "bool")) tNil))))))
theorem pure_is_whole {K : PySem.W.Frag} {x : V} {H : Hp} {Q : VK} {E : XK} (h : sp_is_whole K [x] H Q E) : t_is_whole K { nx := fun _ H' => Q .non H', rt := Q } [some x] H := by
  obtain ⟨x, e, d, h, q⟩ := h
  cases e
  unfold t_is_whole
  cases h <;> (walk_at "ss"; exact q)
def t_is_day (K : PySem.W.Frag) : TS :=
  (tRet (tAndV (tCall (sp_is_whole K) [] E0 (tCons (tVar 0) tNil)) (tChain rLe rLe (tC (.int 0)) (tVar 0) (tC (.int 1000000)))))
theorem pure_is_day {K : PySem.W.Frag} {x : V} {H : Hp} {Q : VK} {E : XK} (h : sp_is_day K [x] H Q E) : t_is_day K { nx := fun _ H' => Q .non H', rt := Q } [some x] H := by
  obtain ⟨x, e, d, h, q⟩ := h
  cases e
  unfold t_is_day
  walk_at "ss"
  cases h with
  | int i =>
    refine ite_t rfl ?_
    walk_at "ss"
    refine ite_b (fun h1 => ?_) fun h1 => ?_
    · walk_at "ss"
      exact and_t h1 q
    · exact and_f h1 q
  | _ => exact q
def t_is_two_days (K : PySem.W.Frag) : TS :=
  (tRet (tAndV (tCB (rIsi K) (tCons (tVar 0) (tCons (tC (.ty "tuple")) tNil))) (tAndV (tOp rEq (tCB (rLen K) (tCons (tVar 0) tNil)) (tC (.int 2))) (tAndV (tCall (sp_is_day K) [] E0 (tCons (tOp (rIxT K) (tVar 0) (tC (.int 0))) tNil)) (tCall (sp_is_day K) [] E0 (tCons (tOp (rIxT K) (tVar 0) (tC (.int 1))) tNil))))))
theorem is2_no {ds : List PyData} (h : ds.length ≠ 2) : is2 (.tuple ds) = false := by
  match ds, h with
  | [], _ => rfl
  | [_], _ => rfl
  | [_, _], h => exact absurd rfl h
  | _ :: _ :: _ :: _, _ => rfl
theorem pure_is_two_days {K : PySem.W.Frag} {x : V} {H : Hp} {Q : VK} {E : XK} (h : sp_is_two_days K [x] H Q E) : t_is_two_days K { nx := fun _ H' => Q .non H', rt := Q } [some x] H := by
  obtain ⟨x, e, d, h, q⟩ := h
  cases e
  unfold t_is_two_days
  cases h with
  | tup n h r =>
    walk_at "ss"
    refine ite_b (fun h1 => ?_) fun h1 => ?_
    · rw [int_eq, decide_eq_true_eq] at h1
      obtain ⟨x, y, a, b, rfl, rfl, hx, hy⟩ := ats2 r (by omega)
      walk_at "ss"
      refine ite_b (fun h2 => ?_) fun h2 => ?_
      · walk_at "ss"
        exact and_t h2 q
      · exact and_f h2 q
    · rw [int_eq, decide_eq_false_iff_not] at h1
      rw [is2_no (fun z => h1 (by rw [Ats.len r, z]; rfl))] at q
      exact q
  | _ => walk_at "ss"; exact q
def t_is_stretch (K : PySem.W.Frag) : TS :=
  (tRet (tAndV (tCall (sp_is_two_days K) [] E0 (tCons (tVar 0) tNil)) (tOp rLe (tOp (rIxT K) (tVar 0) (tC (.int 0))) (tOp (rIxT K) (tVar 0) (tC (.int 1))))))
theorem isStr_no {d : PyData} (h : is2 d = false) : isStr d = false := by
  unfold isStr
  split
  · rename_i a b
    have h' : (isDay (.int a) && isDay (.int b)) = false := h
    cases e : isDay (.int a) with
    | false => rfl
    | true =>
      rw [e, Bool.true_and] at h'
      rw [h', Bool.false_and, Bool.and_false]
  · rfl
theorem isDay_int {d : PyData} (h : isDay d = true) : ∃ i, d = .int i := by
  cases d with
  | int i => exact ⟨i, rfl⟩
  | _ => cases h
theorem is2_ex {d : PyData} (h : is2 d = true) : ∃ a b, d = .tuple [.int a, .int b] ∧ isDay (.int a) = true ∧ isDay (.int b) = true := by
  unfold is2 at h
  split at h
  · obtain ⟨h1, h2⟩ := Bool.and_eq_true_iff.mp h
    obtain ⟨a, rfl⟩ := isDay_int h1
    obtain ⟨b, rfl⟩ := isDay_int h2
    exact ⟨a, b, rfl, h1, h2⟩
  · cases h
theorem pure_is_stretch {K : PySem.W.Frag} {x : V} {H : Hp} {Q : VK} {E : XK} (h : sp_is_stretch K [x] H Q E) : t_is_stretch K { nx := fun _ H' => Q .non H', rt := Q } [some x] H := by
  obtain ⟨x, e, d, h, q⟩ := h
  cases e
  unfold t_is_stretch
  walk_at "ss"
  refine ite_b (fun h1 => ?_) fun h1 => ?_
  · obtain ⟨a, b, rfl, h2, h3⟩ := is2_ex h1
    cases h with
    | tup n h r =>
      obtain ⟨x, y, _, _, rfl, e, hx, hy⟩ := ats2 r (Ats.len r)
      cases e
      cases hx
      cases hy
      walk_at "ss"
      exact and_t h3 (and_t h2 q)
  · rw [isStr_no h1] at q
    exact q
def t_is_coins (K : PySem.W.Frag) : TS :=
  (tRet (tAndV (tCall (sp_is_whole K) [] E0 (tCons (tVar 0) tNil)) (tChain rLe rLe (tC (.int 0)) (tVar 0) (tC (.int 1000000000000)))))
theorem pure_is_coins {K : PySem.W.Frag} {x : V} {H : Hp} {Q : VK} {E : XK} (h : sp_is_coins K [x] H Q E) : t_is_coins K { nx := fun _ H' => Q .non H', rt := Q } [some x] H := by
  obtain ⟨x, e, d, h, q⟩ := h
  cases e
  unfold t_is_coins
  walk_at "ss"
  cases h with
  | int i =>
    refine ite_t rfl ?_
    walk_at "ss"
    refine ite_b (fun h1 => ?_) fun h1 => ?_
    · walk_at "ss"
      exact and_t h1 q
    · exact and_f h1 q
  | _ => exact q
def t_is_nights (K : PySem.W.Frag) : TS :=
  (tRet (tAndV (tCall (sp_is_whole K) [] E0 (tCons (tVar 0) tNil)) (tChain rLe rLe (tC (.int 1)) (tVar 0) (tC (.int 14)))))
theorem pure_is_nights {K : PySem.W.Frag} {x : V} {H : Hp} {Q : VK} {E : XK} (h : sp_is_nights K [x] H Q E) : t_is_nights K { nx := fun _ H' => Q .non H', rt := Q } [some x] H := by
  obtain ⟨x, e, d, h, q⟩ := h
  cases e
  unfold t_is_nights
  walk_at "ss"
  cases h with
  | int i =>
    refine ite_t rfl ?_
    walk_at "ss"
    refine ite_b (fun h1 => ?_) fun h1 => ?_
    · walk_at "ss"
      exact and_t h1 q
    · exact and_f h1 q
  | _ => exact q
/-! YOs: shapes of rules' data. -/
open PySem PySem.Spec PyProof.Rows L2
theorem sh_word (w : Wd) (n : Nat) : Sh n (.str w.word) := sh_str (by cases w <;> decide +kernel) n
theorem sh_fits {w : Wd} {d : PyData} (h : fitsD w d = true) : Sh 1 d := by
  have coins : isCoins d = true → Sh 1 d := fun h => by
    obtain ⟨i, rfl, -⟩ := isCoins_b h
    exact sh_int _ _
  have nights : isNights d = true → Sh 1 d := fun h => by
    obtain ⟨i, rfl, -⟩ := isNights_b h
    exact sh_int _ _
  have bool : isBool d = true → Sh 1 d := fun h => by
    cases d with
    | bool b => exact sh_bl _ _
    | _ => cases h
  have none' : d = .none → Sh 1 d := fun e => by
    subst e
    exact sh_non _
  cases w with
  | price =>
    have h' : (isNone d || isCoins d) = true := h
    rcases Bool.or_eq_true_iff.mp h' with h | h
    · refine none' ?_
      cases d <;> first | rfl | cases h
    · exact coins h
  | come => exact bool h
  | go => exact bool h
  | least => exact nights h
  | most => exact nights h
  | fee => exact coins h
  | deal =>
    rcases isDeal_ex h with e | ⟨m, f, rfl, -⟩
    · exact none' e
    · refine sh_tup fun x hx => ?_
      simp only [List.mem_cons, List.not_mem_nil, or_false] at hx
      rcases hx with rfl | rfl
      · exact sh_int _ _
      · exact sh_int _ _
theorem sh_rule {r : RuleD} (h : r.good) : Sh 2 r.told := sh_tup fun x hx => by
  simp only [List.mem_cons, List.not_mem_nil, or_false] at hx
  rcases hx with rfl | rfl | rfl | rfl
  · exact sh_word _ _
  · exact sh_int _ _
  · exact sh_int _ _
  · exact sh_fits h.2.2.2
theorem g_rep {H : Hp} {Q : VK} {l : Addr} {xs : List V} {k : Int} (h : H l = some (.lst xs)) (h0 : 0 ≤ k) (h1 : k ≤ 1000) (z : xs.length ≤ 100) (q : ∀ p, Fr H p → Q (.ref p) (upd H p (.lst (List.replicate k.toNat xs).flatten))) : rRep (.ref l) (.int k) H Q :=
  have z2 : xs.length * k.toNat ≤ 100000 := (Nat.mul_le_mul z (show k.toNat ≤ 1000 by omega) : _ ≤ 100 * 1000)
  ⟨l, k, xs, rfl, rfl, h, by omega, by omega, Nat.le_trans z2 (by rw [sizeLine_eq]; decide), fun p hp => q p hp⟩
/-! YFg: figures, words and rules as texts: plain law. -/
open PySem PySem.Spec PyProof.Rows L2 TL
/-- a number's figures -/
def figS (n : Nat) : Str := Str.ofString (toString ((n : Nat) : Int))
/-- a word that writes a number as it is written -/
def digB (c : Nat) : Bool := decide (48 ≤ c) && decide (c ≤ 57)
def canB (l : List Nat) : Bool := l.all digB && (!l.isEmpty && (!decide (l.head? = some 48) || decide (l = [48])))
/-- the number that a word writes -/
def numO (x : Str) : Option Nat := if canB (tl x) = true then some (NumText.digitsVal (tl x)) else none
/-! ### split and join by a sign -/
/-- the words of a text, cut at a sign -/
def cutS1 (s : Nat) (x : Str) : List Str := Txt.split x ⟨#[s]⟩
theorem tl_one (s : Nat) : tl (⟨#[s]⟩ : Str) = [s] := rfl
/-! ### a rule's words -/
def worthW : PyData → List Str
  | .none => ["none"]
  | .bool b => [if b = true then "yes" else "no"]
  | .int i => [figS i.toNat]
  | .tuple [.int m, .int f] => [figS m.toNat, figS f.toNat]
  | _ => []
def ruleW (r : RuleD) : List Str := r.w.word :: figS r.f.toNat :: figS r.l.toNat :: worthW r.d
def ruleS (r : RuleD) : Str := Txt.join " " (ruleW r)
open Classical in
/-- the rule that a text writes -/
noncomputable def byO (t : Str) : Option RuleD := if h : ∃ r : RuleD, r.good ∧ ruleS r = t then some h.choose else none
/-! YSr: str of a whole number. -/
open PySem PySem.Spec PyProof.Rows L2
/-- str of a whole number -/
def rStrI : List V → Hp → VK → Prop := fun xs H Q => ∃ i : Int, xs = [.int i] ∧ i.natAbs.log2 < 1920 ∧ Q (.str (toString i : String)) H
/-! YFs: steps of readings of texts. -/
open PySem PySem.Spec PyProof.Rows L2 TL
/-- an f-string -/
def tJoined (ts : List TE) : TE := fun σ H Q => tJs ts Str.empty σ H fun out H1 => Q (.str out) H1
abbrev rSplit : V → List V → Hp → VK → Prop := fun x xs H Q => ∃ a b, x = .str a ∧ xs = [.str b] ∧ (b.length == 0) = false ∧ a.length + 2 ≤ sizeLine ∧ rNewStrs (Txt.split a b) H Q
abbrev rJoinT (K : PySem.W.Frag) : V → List V → Hp → VK → Prop := fun x xs H Q => ∃ a p, ∃ ys : List Str, x = .str a ∧ xs = [.ref p] ∧ (SqL K H p (ys.map V.str) ∨ SqT K H p (ys.map V.str)) ∧
      (ys.map (·.length)).sum + ys.length * a.length ≤ 16777216 ∧ Q (.str (Txt.join a ys)) H
abbrev rIntS : List V → Hp → VK → Prop := fun xs H Q => ∃ a n, xs = [.str a] ∧ PySem.intText? a = some n ∧ a.length ≤ 640 ∧ Q (.int n) H
abbrev rInS : R2 := fun x y H Q => ∃ (c : Nat) (z : Str), x = .str ⟨#[c]⟩ ∧ y = .str z ∧ Q (.bl (decide (c ∈ z.cps.toList))) H
abbrev rNotInS : R2 := fun x y H Q => ∃ (c : Nat) (z : Str), x = .str ⟨#[c]⟩ ∧ y = .str z ∧ Q (.bl (!decide (c ∈ z.cps.toList))) H
section
variable {K : PySem.W.Frag} {σ : L2.St} {H : Hp} {Q : VK}
theorem g_m1 {r : V → List V → Hp → VK → Prop} {to te : TE} (h : to σ H fun x H1 => (∃ a, x = .str a) ∧ te σ H1 fun y H2 => r x [y] H2 Q) : tM1 r to te σ H Q := h
theorem g_isS {a : Str} {R : Prop} (q : R) : (∃ b, V.str a = .str b) ∧ R := ⟨⟨a, rfl⟩, q⟩
theorem g_join {a : Str} {p : Addr} {ys : List Str} (h : SqL K H p (ys.map V.str)) (l : (ys.map (·.length)).sum + ys.length * a.length ≤ 16777216) (q : Q (.str (Txt.join a ys)) H) : rJoinT K (.str a) [.ref p] H Q := ⟨a, p, ys, rfl, rfl, .inl h, l, q⟩
end
theorem len_app (a b : Str) : (a ++ b).length = a.length + b.length := by rw [len_tl, len_tl, len_tl, tl_append, List.length_append]
section
variable {K : PySem.W.Frag} {σ : L2.St} {H : Hp} {acc y : Str} {ts : List TE} {Q : Str → Hp → Prop}
/-- a part {x} of an f-string -/
def FmJ (acc : Str) (ts : List TE) (σ : L2.St) (Q : Str → Hp → Prop) (x : V) (H1 : Hp) : Prop := (∃ y : Str, x = .str y ∧ y.length ≤ sizeLine ∧ ∃ y' : Str, V.str y = .str y' ∧ (acc ++ y').length ≤ sizeLine ∧ tJs ts (acc ++ y') σ H1 Q) ∨ ∃ i : Int, x = .int i ∧ i.natAbs.log2 < 1920 ∧ ∃ y' : Str, V.str (toString i : String) = .str y' ∧ (acc ++ y').length ≤ sizeLine ∧ tJs ts (acc ++ y') σ H1 Q
end
/-! YRl: lists of rules in the heap (second family). -/
open PySem PySem.Spec PyProof.Rows L2
/-- a list of rules' tuples stands at v -/
def RlAt (H : Hp) (v : V) (rs : List RuleD) : Prop := ∃ q xs, v = .ref q ∧ H q = some (.lst xs) ∧ Rus H xs rs
theorem same_kp {t b : Addr} {H G H' : Hp} (s : Same H G) (k : Kp [t, b] G H') (ft : Fr H t) (fb : Fr H b) : Same H H' := fun a o e => k a o (s a o e) fun m => by
  simp only [List.mem_cons, List.not_mem_nil, or_false] at m
  rcases m with rfl | rfl
  · rw [show H a = none from ft] at e; cases e
  · rw [show H a = none from fb] at e; cases e
/-! YLc: comprehensions whose items are lists or objects of their own. -/
open PySem PySem.Spec PyProof.Rows L2
theorem lc_own {J : It} {n : Nat} {G : Hp → Prop} {Y : Nat → Hp → V → Hp → Prop} (w : Walk J n G Y) {g : TG} {tt : TT} {te : TE} {vs : List Nat} {σ : L2.St} {H1 : Hp} {Qf : Addr → Hp → Prop} {β : Type} (R : Addr → Hp → V → β → Prop) (hS : ∀ D G G' v b, Same G G' → R D G v b → R D G' v b) (hP : ∀ D G zs o v b, G D = some (.lst zs) → R D G v b → R D (upd G D o) v b) (f : Nat → Option β) (hn : n < 100000) (hG : ∀ H, Same H1 H → G H)
    (hs : ∀ (D : Addr) i x H H' (N : Hp → Prop), Fr H1 D → i < n → Same H1 H → (∃ acc, H D = some (.lst acc)) → Y i H x H' → (∀ y b H4, f i = some b → Same H H4 → R D H4 y b → ∃ acc, H4 D = some (.lst acc) ∧ acc.length < sizeLine ∧ N (upd H4 D (.lst (acc ++ [y])))) → (∀ H4, f i = none → Same H H4 → N H4) →
      g x (wipe σ vs) H' fun σ2 H2 => wipe σ2 vs = wipe σ vs ∧ tt σ2 H2 fun b H3 =>
        if b = true then te σ2 H3 fun y H4 => ∃ acc, H4 D = some (.lst acc) ∧ acc.length < sizeLine ∧ N (upd H4 D (.lst (acc ++ [y]))) else N H3)
    (hd : ∀ D H' ys, Fr H1 D → Same H1 H' → H' D = some (.lst ys) → Paired (R D H') ys ((List.range n).filterMap f) → Qf D H') :
    ∀ D, Fr H1 D → ∃ W : Nat → Nat → Hp → Prop, (∃ m, W 0 m (upd H1 D (.lst []))) ∧ ∀ i m H, W i m H →
      (J.stop i H ∧ Qf D H) ∨ (J.go i H ∧ ∃ Nx : Hp → Prop, (∀ H', Nx H' → ∃ m', m' < m ∧ W (i + 1) m' H') ∧ ∀ x H', J.yld i H x H' → g x (wipe σ vs) H' fun σ2 H2 => wipe σ2 vs = wipe σ vs ∧ tt σ2 H2 fun b H3 =>
        if b = true then te σ2 H3 fun y H4 => ∃ acc, H4 D = some (.lst acc) ∧ acc.length < sizeLine ∧ Nx (upd H4 D (.lst (acc ++ [y]))) else Nx H3) := fun D hD => by
  refine lc_it w (fun i H => Same H1 H ∧ ∃ acc, H D = some (.lst acc) ∧ Paired (R D H) acc ((List.range i).filterMap f)) ⟨same_new hD, [], upd_same, .nil⟩ (fun i H _ h => hG H h.1) (fun i x H H' hi ⟨sm, acc, ha, hp⟩ y => ?_) fun H ⟨sm, acc, ha, hp⟩ => hd D H acc hD sm ha hp
  have hlen : acc.length ≤ i := by
    rw [Paired.length hp]
    exact Nat.le_trans (List.length_filterMap_le ..) (by rw [List.length_range]; omega)
  refine hs D i x H H' _ hD hi sm ⟨acc, ha⟩ y (fun y b H4 hb s r => ⟨acc, s _ _ ha, by rw [sizeLine_eq]; omega, sm_own hD (sm.trans s), acc ++ [y], upd_same, ?_⟩) fun H4 hb s => ⟨sm.trans s, acc, s _ _ ha, ?_⟩
  · rw [List.range_succ, List.filterMap_append]
    refine Paired.app (Paired.mapP hp fun _ _ q => hP _ _ _ _ _ _ (s _ _ ha) (hS _ _ _ _ _ s q)) ?_
    simp only [List.filterMap_cons, hb, List.filterMap_nil]
    exact .cons (hP _ _ _ _ _ _ (s _ _ ha) r) .nil
  · rw [List.range_succ, List.filterMap_append]
    simp only [List.filterMap_cons, hb, List.filterMap_nil, List.append_nil]
    exact Paired.mapP hp fun _ _ q => hS _ _ _ _ _ s q
/-- a book that stands apart from a list -/
def BkD (K : PySem.W.Frag) (D : Addr) (H : Hp) (v : V) (rs : List RuleD) : Prop := ∃ F, BookAt K H F v rs ∧ D ∉ F
/-- a list of rules' tuples, apart from a list -/
def RlD (D : Addr) (H : Hp) (v : V) (rs : List RuleD) : Prop := ∃ q xs, v = .ref q ∧ q ≠ D ∧ H q = some (.lst xs) ∧ Rus H xs rs
theorem rlD_s (D : Addr) (G G' : Hp) (v : V) (b : List RuleD) (s : Same G G') (h : RlD D G v b) : RlD D G' v b := let ⟨q, xs, e, n, h1, h2⟩ := h; ⟨q, xs, e, n, s _ _ h1, ru_same s h2⟩
theorem rlD_p (D : Addr) (G : Hp) (zs : List V) (o : HO) (v : V) (b : List RuleD) (e : G D = some (.lst zs)) (h : RlD D G v b) : RlD D (upd G D o) v b := let ⟨q, xs, e1, n, h1, h2⟩ := h; ⟨q, xs, e1, n, at_ne n h1, ru_put e h2⟩
theorem RlD.at {D : Addr} {H : Hp} {v : V} {rs : List RuleD} (h : RlD D H v rs) : RlAt H v rs := let ⟨q, xs, e, _, h1, h2⟩ := h; ⟨q, xs, e, h1, h2⟩
theorem dp_rls {K : PySem.W.Frag} {H : Hp} : ∀ {vs : List V} {bs : List (List RuleD)}, Paired (RlAt H) vs bs → DpAll K H vs (bs.map fun rs => .list (rs.map RuleD.told))
  | _, _, .nil => .nil
  | _, _, .cons ⟨q, xs, e, h1, h2⟩ t => by
    subst e
    exact .cons (dp_row (SqL.of h1) h2) (dp_rls t)
theorem sh_rls {bs : List (List RuleD)} (g : GoodB bs) : Sh 4 (.list (bs.map fun rs => .list (rs.map RuleD.told))) := sh_lst fun d hd => by
  obtain ⟨rs, hrs, rfl⟩ := List.mem_map.mp hd
  exact sh_lst fun d hd => by
    obtain ⟨r, hr, rfl⟩ := List.mem_map.mp hd
    exact sh_rule (g rs hrs r hr)
/-- a book that stands apart from a row of draws -/
def BkT (K : PySem.W.Frag) (t : Addr) (H : Hp) (v : V) (rs : List RuleD) : Prop := ∃ F, BookAt K H F v rs ∧ ∀ p ∈ F, p ∉ [t, t]
theorem BkT.kp {K : PySem.W.Frag} {t : Addr} {H H' : Hp} {v : V} {rs : List RuleD} (k : Kp [t, t] H H') (T : Tape H t t t) (h : BkT K t H v rs) : BkT K t H' v rs := let ⟨F, h, n⟩ := h; ⟨F, bk_kp k T n h, n⟩
def BkDT (K : PySem.W.Frag) (t : Addr) (D : Addr) (H : Hp) (v : V) (rs : List RuleD) : Prop := ∃ F, BookAt K H F v rs ∧ D ∉ F ∧ ∀ p ∈ F, p ∉ [t, t]
/-! YNd: a law's deeds (no stay taken): what each tells. -/
open PySem PySem.Spec PyProof.Rows L2
abbrev EI : List Str := ["NoDeed", "NoName", "NoRule", "NoTaken", "NotSold", "Off", "TooMany"]
/-- what is told of the errors -/
structure CEI (K : PySem.W.Frag) : Prop where
  ce : exErrs EI K = true
  cn : exInit "NoRule" "number" K = true
  cm : exBare "TooMany" K = true
  c1 : exBare "NoName" K = true
  c2 : exBare "NoTaken" K = true
  c3 : exBare "NoDeed" K = true
def ResAt (H : Hp) (r : V) (w : Str) (d : PyData) : Prop := ∃ t x, r = .ref t ∧ H t = some (.tup [.str w, x]) ∧ At H [] x d ∧ (d = .none ∨ ∃ i, d = .int i)
inductive DoneQ (K : PySem.W.Frag) (H : Hp) (M W : List Addr) (v : V) (m : Int) (sh : Shf) (pa : List Shf) (t : Addr) (Q : VK) : Prop
  | back (k : Int) (h : H t = some (.tup [.str "back", .int k])) (q : ∀ r H', Same H H' → ResAt H' r "no taken" .none → Q r H')
  | tidy (n : Str) (h : H t = some (.tup [.str "tidy", .str n])) (l : lookS sh n = none) (q : ∀ r H', Same H H' → ResAt H' r "no name" .none → Q r H')
  | undo (h : H t = some (.tup [.str "undo"])) (x : pa = [] → ∀ r H', Same H H' → ResAt H' r "no deed" .none → Q r H') (q : ∀ pa' sh', pa = pa' ++ [sh'] → ∀ r H' M', Kp M H H' → InnAt K H' M' W v m sh' pa' → (∀ x ∈ M', x ∈ M) → ResAt H' r "ok" .none → Q r H')
  | lay (n : Str) (p : Addr) (xs : List V) (ds : List PyData) (h : H t = some (.tup [.str "lay", .str n, .ref p])) (hp : H p = some (.lst xs)) (hd : Paired (At H []) xs ds) (ld : ds.length ≤ 1000)
      (x : lookS sh n = none → ∀ r H', Same H H' → ResAt H' r "no name" .none → Q r H')
      (q1 : ∀ rs (i : Nat) (d : PyData), lookS sh n = some rs → ds[i]? = some d → asRule d = none → (∃ us, AllR (ds.take i) us) → ∀ r H', Same H H' → ResAt H' r "no rule" (.int (i : Nat)) → Q r H')
      (q2 : ∀ rs us, lookS sh n = some rs → AllR ds us → (24 < us.length ∨ 24 < rs.length + us.length) → ∀ r H', Same H H' → ResAt H' r "many" .none → Q r H')
      (q3 : ∀ rs us, lookS sh n = some rs → AllR ds us → rs.length + us.length ≤ 24 → ∀ r H' M' W', Kp M H H' → InnAt K H' M' W' v m (putS sh n (rs ++ us)) (pa ++ [sh]) → ((∀ x ∈ M', x ∈ M ∨ Fr H x) ∧ ∀ x ∈ W', x ∈ W ∨ Fr H x) → ResAt H' r "ok" .none → Q r H')
def sp_Ldone (K : PySem.W.Frag) : Sp := Sp2 fun v y H Q E => CFI K ∧ CFR K ∧ CFB K ∧ CEI K ∧ ∃ M W m sh pa t, y = .ref t ∧ InnAt K H M W v m sh pa ∧ pa.length ≤ 1000 ∧ DoneQ K H M W v m sh pa t Q
theorem g_Ldone {K : PySem.W.Frag} {M W : List Addr} {v : V} {m : Int} {sh : Shf} {pa : List Shf} {t : Addr} {H : Hp} {Q : VK} {E : XK} (ci : CFI K) (c : CFR K) (cb : CFB K) (cs : CEI K) (I : InnAt K H M W v m sh pa) (l : pa.length ≤ 1000) (q : DoneQ K H M W v m sh pa t Q) : sp_Ldone K ([v, .ref t] ++ []) H Q E := ⟨_, _, rfl, ci, c, cb, cs, M, W, m, sh, pa, t, rfl, I, l, q⟩
theorem g_idxB {K : PySem.W.Frag} {H : Hp} {Q : VK} {l : Addr} {bs : List Bool} {j : Nat} (h : SqL K H l (bs.map V.bl)) (a : bs[j]? = some true) (b : ∀ m, m < j → bs[m]? = some false) (q : Q (.int (j : Nat)) H) : rIndex K (.ref l) [.bl true] H Q :=
  ⟨l, _, .bl true, j, .bl true, rfl, rfl, h, rfl, by rw [List.all_map]; exact List.all_eq_true.mpr fun _ _ => rfl, by rw [List.getElem?_map, a]; rfl, rfl, fun m z hm hz => by
    rw [List.getElem?_map, b m hm] at hz
    cases hz
    rfl, q⟩
theorem res_new {H : Hp} {t : Addr} {w : Str} {x : V} {d : PyData} (h : H t = some (.tup [.str w, x])) (a : At H [] x d) (z : d = .none ∨ ∃ i, d = .int i) : ResAt H (.ref t) w d := ⟨t, x, rfl, h, a, z⟩
def t_Ldone (K : PySem.W.Frag) : TS :=
  (tTryK K (.ref (He.ga K "StayError")) 2 (fun W1 => (tSeq (tIfS (tTest (tOp rEq (tOp (rIxT K) (tVar 1) (tC (.int 0))) (tC (.str "take"))))
  (tRet (tTup (tCons (tC (.str "ok")) (tCons (Y.tNeverE) tNil))))
  tNext)
  (tSeq (tIfS (tTest (tOp rEq (tOp (rIxT K) (tVar 1) (tC (.int 0))) (tC (.str "back"))))
  (tRet (tTup (tCons (tC (.str "ok")) (tCons (tMethX (He.ga K "Inn") "give_back" (spx_Inn_give_back K) [] W1 (tVar 0) (tCons (tOp (rIxT K) (tVar 1) (tC (.int 1))) tNil)) tNil))))
  tNext)
  (tSeq (tIfS (tTest (tOp rEq (tOp (rIxT K) (tVar 1) (tC (.int 0))) (tC (.str "lay"))))
  (tRet (tTup (tCons (tC (.str "ok")) (tCons (tMethX (He.ga K "Inn") "lay" (spx_Inn_lay K) [] W1 (tVar 0) (tCons (tOp (rIxT K) (tVar 1) (tC (.int 1))) (tCons (tOp (rIxT K) (tVar 1) (tC (.int 2))) tNil))) tNil))))
  tNext)
  (tSeq (tIfS (tTest (tOp rEq (tOp (rIxT K) (tVar 1) (tC (.int 0))) (tC (.str "tidy"))))
  (tRet (tTup (tCons (tC (.str "ok")) (tCons (tMethX (He.ga K "Inn") "tidy" (spx_Inn_tidy K) [] W1 (tVar 0) (tCons (tOp (rIxT K) (tVar 1) (tC (.int 1))) tNil)) tNil))))
  tNext)
  (tRet (tTup (tCons (tC (.str "ok")) (tCons (tMethX (He.ga K "Inn") "undo" (spx_Inn_undo K) [] W1 (tVar 0) tNil) tNil))))))))) (tSeq (tAsg (tLst (tCons (tCB (Y.rIsK K) (tCons (tVar 2) (tCons (tC (.ref (He.ga K "Off"))) tNil))) (tCons (tCB (Y.rIsK K) (tCons (tVar 2) (tCons (tC (.ref (He.ga K "NoTaken"))) tNil))) (tCons (tCB (Y.rIsK K) (tCons (tVar 2) (tCons (tC (.ref (He.ga K "NoName"))) tNil))) (tCons (tCB (Y.rIsK K) (tCons (tVar 2) (tCons (tC (.ref (He.ga K "NoRule"))) tNil))) tNil))))) (gName 3))
  (tSeq (tAsg (tOp rCat (tVar 3) (tLst (tCons (tCB (Y.rIsK K) (tCons (tVar 2) (tCons (tC (.ref (He.ga K "TooMany"))) tNil))) (tCons (tCB (Y.rIsK K) (tCons (tVar 2) (tCons (tC (.ref (He.ga K "NoDeed"))) tNil))) tNil)))) (gName 3))
  (tSeq (tIfS (tOr (tTest (tOp rNe (tBM K "list" (rCntV K) (tVar 3) (tCons (tC (.bl true)) tNil)) (tC (.int 1)))) (tNot (tB (tCB (Y.rIsK K) (tCons (tVar 2) (tCons (tC (.ty "ValueError")) tNil))))))
  (tRet (tTup (tCons (tC (.str "wrong")) (tCons (tC .non) tNil))))
  tNext)
  (tSeq (tIfS (tB (tCB (Y.rIsK K) (tCons (tVar 2) (tCons (tC (.ref (He.ga K "Off"))) tNil))))
  (tRet (tTup (tCons (tC (.str "off")) (tCons (tXat K (tVar 2) "days") tNil))))
  tNext)
  (tSeq (tIfS (tB (tCB (Y.rIsK K) (tCons (tVar 2) (tCons (tC (.ref (He.ga K "NoRule"))) tNil))))
  (tRet (tTup (tCons (tC (.str "no rule")) (tCons (tXat K (tVar 2) "number") tNil))))
  tNext)
  (tRet (tTup (tCons (tOp (rIxL K) (tLst (tCons (tC (.str "")) (tCons (tC (.str "no taken")) (tCons (tC (.str "no name")) (tCons (tC (.str "")) (tCons (tC (.str "many")) (tCons (tC (.str "no deed")) tNil))))))) (tBM K "list" (rIndex K) (tVar 3) (tCons (tC (.bl true)) tNil))) (tCons (tC .non) tNil))))))))) (fun _ _ _ _ => False))
theorem pure_Ldone {K : PySem.W.Frag} {v y : V} {H : Hp} {Q : VK} {E : XK} (h : sp_Ldone K [v, y] H Q E) : t_Ldone K { nx := fun _ H' => Q .non H', rt := Q } [some v, some y, none, none] H := by
  obtain ⟨v, y, e, ci, c, cb, ⟨ce, cn, cm, c1, c2, c3⟩, M, W, m, sh, pa, t, rfl, J, lp, q⟩ := h
  cases e
  unfold t_Ldone
  cases q with
  | back k h q =>
    walk_at "ss"
    refine ite_f (by decide) ?_
    walk_at "ss"
    refine ite_t (by decide) ?_
    walk_at "ss"
    refine g_imethX (n := 0) rfl J (by decide) ?_
    walk_at "ss"
    refine gx_iback ci c2 J ?_
    refine w_take (x := "NoTaken") ce (by decide) (by decide) (by decide) fun b hb => ?_
    have fa := exAt_bare (H := H) (a := b) ce (x := "NoTaken") (by decide)
    walk_at "ss"
    rename_i p1 hp1 p2 hp2 l0 hl0
    have eL : ([V.bl (subE "NoTaken" "Off"), V.bl (subE "NoTaken" "NoTaken"), V.bl (subE "NoTaken" "NoName"), V.bl (subE "NoTaken" "NoRule")] ++ [V.bl (subE "NoTaken" "TooMany"), V.bl (subE "NoTaken" "NoDeed")]) = [V.bl false, V.bl true, V.bl false, V.bl false, V.bl false, V.bl false] := by rfl
    rw [eL]
    refine g_cntV (SqL.of upd_same) rfl rfl ?_
    walk_at "ss"
    refine ite_f (by rfl) ?_
    have sG : Same H (upd (upd (upd (upd H b (exK b (.ref (He.ga K "NoTaken")) none)) p1 (.lst [V.bl (subE "NoTaken" "Off"), V.bl (subE "NoTaken" "NoTaken"), V.bl (subE "NoTaken" "NoName"), V.bl (subE "NoTaken" "NoRule")])) p2 (.lst [V.bl (subE "NoTaken" "TooMany"), V.bl (subE "NoTaken" "NoDeed")])) l0 (.lst [V.bl false, V.bl true, V.bl false, V.bl false, V.bl false, V.bl false])) := (Same.refl H).trans (sm_new hl0 (sm_new hp2 (sm_new hp1 (same_new hb))))
    have fG := exAt_new (o := .lst [V.bl false, V.bl true, V.bl false, V.bl false, V.bl false, V.bl false]) hl0 (exAt_new (o := .lst [V.bl (subE "NoTaken" "TooMany"), V.bl (subE "NoTaken" "NoDeed")]) hp2 (exAt_new (o := .lst [V.bl (subE "NoTaken" "Off"), V.bl (subE "NoTaken" "NoTaken"), V.bl (subE "NoTaken" "NoName"), V.bl (subE "NoTaken" "NoRule")]) hp1 fa))
    have hG : (upd (upd (upd (upd H b (exK b (.ref (He.ga K "NoTaken")) none)) p1 (.lst [V.bl (subE "NoTaken" "Off"), V.bl (subE "NoTaken" "NoTaken"), V.bl (subE "NoTaken" "NoName"), V.bl (subE "NoTaken" "NoRule")])) p2 (.lst [V.bl (subE "NoTaken" "TooMany"), V.bl (subE "NoTaken" "NoDeed")])) l0 (.lst [V.bl false, V.bl true, V.bl false, V.bl false, V.bl false, V.bl false])) l0 = _ := upd_same
    generalize upd (upd (upd (upd H b (exK b (.ref (He.ga K "NoTaken")) none)) p1 (.lst [V.bl (subE "NoTaken" "Off"), V.bl (subE "NoTaken" "NoTaken"), V.bl (subE "NoTaken" "NoName"), V.bl (subE "NoTaken" "NoRule")])) p2 (.lst [V.bl (subE "NoTaken" "TooMany"), V.bl (subE "NoTaken" "NoDeed")])) l0 (.lst [V.bl false, V.bl true, V.bl false, V.bl false, V.bl false, V.bl false]) = G at sG fG hG ⊢
    clear hl0 hp2 hp1 hb fa eL
    walk_at "ss"
    rename_i p3 hp3
    refine g_idxB (bs := [false, true, false, false, false, false]) (j := 1) (SqL.of (at_new hp3 hG)) rfl (by decide) ?_
    walk_at "ss"
    refine ⟨p3, _, 1, _, rfl, rfl, SqL.of upd_same, rfl, ?_⟩
    walk_at "ss"
    rename_i p4 hp4
    exact q _ _ (sG.trans (sm_new hp4 (same_new hp3))) (res_new upd_same .non (.inl rfl))
  | tidy n h l q =>
    walk_at "ss"
    refine ite_f (by decide) ?_
    walk_at "ss"
    refine ite_f (by decide) ?_
    walk_at "ss"
    refine ite_f (by decide) ?_
    walk_at "ss"
    refine ite_t (by decide) ?_
    walk_at "ss"
    refine g_imethX (n := 0) rfl J (by decide) ?_
    walk_at "ss"
    refine gx_itidy ci c1 J l ?_
    refine w_take (x := "NoName") ce (by decide) (by decide) (by decide) fun b hb => ?_
    have fa := exAt_bare (H := H) (a := b) ce (x := "NoName") (by decide)
    walk_at "ss"
    rename_i p1 hp1 p2 hp2 l0 hl0
    have eL : ([V.bl (subE "NoName" "Off"), V.bl (subE "NoName" "NoTaken"), V.bl (subE "NoName" "NoName"), V.bl (subE "NoName" "NoRule")] ++ [V.bl (subE "NoName" "TooMany"), V.bl (subE "NoName" "NoDeed")]) = [V.bl false, V.bl false, V.bl true, V.bl false, V.bl false, V.bl false] := by rfl
    rw [eL]
    refine g_cntV (SqL.of upd_same) rfl rfl ?_
    walk_at "ss"
    refine ite_f (by rfl) ?_
    have sG : Same H (upd (upd (upd (upd H b (exK b (.ref (He.ga K "NoName")) none)) p1 (.lst [V.bl (subE "NoName" "Off"), V.bl (subE "NoName" "NoTaken"), V.bl (subE "NoName" "NoName"), V.bl (subE "NoName" "NoRule")])) p2 (.lst [V.bl (subE "NoName" "TooMany"), V.bl (subE "NoName" "NoDeed")])) l0 (.lst [V.bl false, V.bl false, V.bl true, V.bl false, V.bl false, V.bl false])) := (Same.refl H).trans (sm_new hl0 (sm_new hp2 (sm_new hp1 (same_new hb))))
    have fG := exAt_new (o := .lst [V.bl false, V.bl false, V.bl true, V.bl false, V.bl false, V.bl false]) hl0 (exAt_new (o := .lst [V.bl (subE "NoName" "TooMany"), V.bl (subE "NoName" "NoDeed")]) hp2 (exAt_new (o := .lst [V.bl (subE "NoName" "Off"), V.bl (subE "NoName" "NoTaken"), V.bl (subE "NoName" "NoName"), V.bl (subE "NoName" "NoRule")]) hp1 fa))
    have hG : (upd (upd (upd (upd H b (exK b (.ref (He.ga K "NoName")) none)) p1 (.lst [V.bl (subE "NoName" "Off"), V.bl (subE "NoName" "NoTaken"), V.bl (subE "NoName" "NoName"), V.bl (subE "NoName" "NoRule")])) p2 (.lst [V.bl (subE "NoName" "TooMany"), V.bl (subE "NoName" "NoDeed")])) l0 (.lst [V.bl false, V.bl false, V.bl true, V.bl false, V.bl false, V.bl false])) l0 = _ := upd_same
    generalize upd (upd (upd (upd H b (exK b (.ref (He.ga K "NoName")) none)) p1 (.lst [V.bl (subE "NoName" "Off"), V.bl (subE "NoName" "NoTaken"), V.bl (subE "NoName" "NoName"), V.bl (subE "NoName" "NoRule")])) p2 (.lst [V.bl (subE "NoName" "TooMany"), V.bl (subE "NoName" "NoDeed")])) l0 (.lst [V.bl false, V.bl false, V.bl true, V.bl false, V.bl false, V.bl false]) = G at sG fG hG ⊢
    clear hl0 hp2 hp1 hb fa eL
    walk_at "ss"
    rename_i p3 hp3
    refine g_idxB (bs := [false, false, true, false, false, false]) (j := 2) (SqL.of (at_new hp3 hG)) rfl (by decide) ?_
    walk_at "ss"
    refine ⟨p3, _, 2, _, rfl, rfl, SqL.of upd_same, rfl, ?_⟩
    walk_at "ss"
    rename_i p4 hp4
    exact q _ _ (sG.trans (sm_new hp4 (same_new hp3))) (res_new upd_same .non (.inl rfl))
  | undo h x q =>
    walk_at "ss"
    refine ite_f (by decide) ?_
    walk_at "ss"
    refine ite_f (by decide) ?_
    walk_at "ss"
    refine ite_f (by decide) ?_
    walk_at "ss"
    refine ite_f (by decide) ?_
    walk_at "ss"
    refine g_imethX (n := 0) rfl J (by decide) ?_
    walk_at "ss"
    refine gx_iundo ci c3 J (fun e H1 s1 => ?_) fun pa' sh' e H1 M1 k1 J1 m1 => ?_
    · refine w_take (x := "NoDeed") ce (by decide) (by decide) (by decide) fun b hb => ?_
      have fa := exAt_bare (H := H1) (a := b) ce (x := "NoDeed") (by decide)
      walk_at "ss"
      rename_i p1 hp1 p2 hp2 l0 hl0
      have eL : ([V.bl (subE "NoDeed" "Off"), V.bl (subE "NoDeed" "NoTaken"), V.bl (subE "NoDeed" "NoName"), V.bl (subE "NoDeed" "NoRule")] ++ [V.bl (subE "NoDeed" "TooMany"), V.bl (subE "NoDeed" "NoDeed")]) = [V.bl false, V.bl false, V.bl false, V.bl false, V.bl false, V.bl true] := by rfl
      rw [eL]
      refine g_cntV (SqL.of upd_same) rfl rfl ?_
      walk_at "ss"
      refine ite_f (by rfl) ?_
      have sG : Same H (upd (upd (upd (upd H1 b (exK b (.ref (He.ga K "NoDeed")) none)) p1 (.lst [V.bl (subE "NoDeed" "Off"), V.bl (subE "NoDeed" "NoTaken"), V.bl (subE "NoDeed" "NoName"), V.bl (subE "NoDeed" "NoRule")])) p2 (.lst [V.bl (subE "NoDeed" "TooMany"), V.bl (subE "NoDeed" "NoDeed")])) l0 (.lst [V.bl false, V.bl false, V.bl false, V.bl false, V.bl false, V.bl true])) := (s1).trans (sm_new hl0 (sm_new hp2 (sm_new hp1 (same_new hb))))
      have fG := exAt_new (o := .lst [V.bl false, V.bl false, V.bl false, V.bl false, V.bl false, V.bl true]) hl0 (exAt_new (o := .lst [V.bl (subE "NoDeed" "TooMany"), V.bl (subE "NoDeed" "NoDeed")]) hp2 (exAt_new (o := .lst [V.bl (subE "NoDeed" "Off"), V.bl (subE "NoDeed" "NoTaken"), V.bl (subE "NoDeed" "NoName"), V.bl (subE "NoDeed" "NoRule")]) hp1 fa))
      have hG : (upd (upd (upd (upd H1 b (exK b (.ref (He.ga K "NoDeed")) none)) p1 (.lst [V.bl (subE "NoDeed" "Off"), V.bl (subE "NoDeed" "NoTaken"), V.bl (subE "NoDeed" "NoName"), V.bl (subE "NoDeed" "NoRule")])) p2 (.lst [V.bl (subE "NoDeed" "TooMany"), V.bl (subE "NoDeed" "NoDeed")])) l0 (.lst [V.bl false, V.bl false, V.bl false, V.bl false, V.bl false, V.bl true])) l0 = _ := upd_same
      generalize upd (upd (upd (upd H1 b (exK b (.ref (He.ga K "NoDeed")) none)) p1 (.lst [V.bl (subE "NoDeed" "Off"), V.bl (subE "NoDeed" "NoTaken"), V.bl (subE "NoDeed" "NoName"), V.bl (subE "NoDeed" "NoRule")])) p2 (.lst [V.bl (subE "NoDeed" "TooMany"), V.bl (subE "NoDeed" "NoDeed")])) l0 (.lst [V.bl false, V.bl false, V.bl false, V.bl false, V.bl false, V.bl true]) = G at sG fG hG ⊢
      clear hl0 hp2 hp1 hb fa eL
      walk_at "ss"
      rename_i p3 hp3
      refine g_idxB (bs := [false, false, false, false, false, true]) (j := 5) (SqL.of (at_new hp3 hG)) rfl (by decide) ?_
      walk_at "ss"
      refine ⟨p3, _, 5, _, rfl, rfl, SqL.of upd_same, rfl, ?_⟩
      walk_at "ss"
      rename_i p4 hp4
      exact x e _ _ (sG.trans (sm_new hp4 (same_new hp3))) (res_new upd_same .non (.inl rfl))
    · walk_at "ss"
      rename_i p4 hp4
      exact q pa' sh' e _ _ M1 (k1.trans (Same.kp (same_new hp4) _)) (J1.same (same_new hp4)) m1 (res_new upd_same .non (.inl rfl))
  | lay n p xs ds h hp hd ld x q1 q2 q3 =>
    walk_at "ss"
    refine ite_f (by decide) ?_
    walk_at "ss"
    refine ite_f (by decide) ?_
    walk_at "ss"
    refine ite_t (by decide) ?_
    walk_at "ss"
    refine g_imethX (n := 0) rfl J (by decide) ?_
    walk_at "ss"
    refine ⟨_, _, _, rfl, ci, c, cb, c1, cn, cm, M, W, m, sh, pa, n, p, xs, ds, J, rfl, rfl, hp, hd, ld, lp, fun e => ?_, fun rs e => ⟨fun i d dd H1 a1 a2 a3 s1 hdd => ?_, fun us H1 a1 a2 s1 => ?_, fun us H1 M1 W1 a1 a2 k1 J1 m1 => ?_⟩⟩
    · refine w_take (x := "NoName") ce (by decide) (by decide) (by decide) fun b hb => ?_
      have fa := exAt_bare (H := H) (a := b) ce (x := "NoName") (by decide)
      walk_at "ss"
      rename_i p1 hp1 p2 hp2 l0 hl0
      have eL : ([V.bl (subE "NoName" "Off"), V.bl (subE "NoName" "NoTaken"), V.bl (subE "NoName" "NoName"), V.bl (subE "NoName" "NoRule")] ++ [V.bl (subE "NoName" "TooMany"), V.bl (subE "NoName" "NoDeed")]) = [V.bl false, V.bl false, V.bl true, V.bl false, V.bl false, V.bl false] := by rfl
      rw [eL]
      refine g_cntV (SqL.of upd_same) rfl rfl ?_
      walk_at "ss"
      refine ite_f (by rfl) ?_
      have sG : Same H (upd (upd (upd (upd H b (exK b (.ref (He.ga K "NoName")) none)) p1 (.lst [V.bl (subE "NoName" "Off"), V.bl (subE "NoName" "NoTaken"), V.bl (subE "NoName" "NoName"), V.bl (subE "NoName" "NoRule")])) p2 (.lst [V.bl (subE "NoName" "TooMany"), V.bl (subE "NoName" "NoDeed")])) l0 (.lst [V.bl false, V.bl false, V.bl true, V.bl false, V.bl false, V.bl false])) := (Same.refl H).trans (sm_new hl0 (sm_new hp2 (sm_new hp1 (same_new hb))))
      have fG := exAt_new (o := .lst [V.bl false, V.bl false, V.bl true, V.bl false, V.bl false, V.bl false]) hl0 (exAt_new (o := .lst [V.bl (subE "NoName" "TooMany"), V.bl (subE "NoName" "NoDeed")]) hp2 (exAt_new (o := .lst [V.bl (subE "NoName" "Off"), V.bl (subE "NoName" "NoTaken"), V.bl (subE "NoName" "NoName"), V.bl (subE "NoName" "NoRule")]) hp1 fa))
      have hG : (upd (upd (upd (upd H b (exK b (.ref (He.ga K "NoName")) none)) p1 (.lst [V.bl (subE "NoName" "Off"), V.bl (subE "NoName" "NoTaken"), V.bl (subE "NoName" "NoName"), V.bl (subE "NoName" "NoRule")])) p2 (.lst [V.bl (subE "NoName" "TooMany"), V.bl (subE "NoName" "NoDeed")])) l0 (.lst [V.bl false, V.bl false, V.bl true, V.bl false, V.bl false, V.bl false])) l0 = _ := upd_same
      generalize upd (upd (upd (upd H b (exK b (.ref (He.ga K "NoName")) none)) p1 (.lst [V.bl (subE "NoName" "Off"), V.bl (subE "NoName" "NoTaken"), V.bl (subE "NoName" "NoName"), V.bl (subE "NoName" "NoRule")])) p2 (.lst [V.bl (subE "NoName" "TooMany"), V.bl (subE "NoName" "NoDeed")])) l0 (.lst [V.bl false, V.bl false, V.bl true, V.bl false, V.bl false, V.bl false]) = G at sG fG hG ⊢
      clear hl0 hp2 hp1 hb fa eL
      walk_at "ss"
      rename_i p3 hp3
      refine g_idxB (bs := [false, false, true, false, false, false]) (j := 2) (SqL.of (at_new hp3 hG)) rfl (by decide) ?_
      walk_at "ss"
      refine ⟨p3, _, 2, _, rfl, rfl, SqL.of upd_same, rfl, ?_⟩
      walk_at "ss"
      rename_i p4 hp4
      exact x e _ _ (sG.trans (sm_new hp4 (same_new hp3))) (res_new upd_same .non (.inl rfl))
    · refine w_take (x := "NoRule") ce (by decide) (by decide) (by decide) fun b hb => ?_
      have fa := exAt_fld ce (x := "NoRule") (by decide) hdd hb
      walk_at "ss"
      rename_i p1 hp1 p2 hp2 l0 hl0
      have eL : ([V.bl (subE "NoRule" "Off"), V.bl (subE "NoRule" "NoTaken"), V.bl (subE "NoRule" "NoName"), V.bl (subE "NoRule" "NoRule")] ++ [V.bl (subE "NoRule" "TooMany"), V.bl (subE "NoRule" "NoDeed")]) = [V.bl false, V.bl false, V.bl false, V.bl true, V.bl false, V.bl false] := by rfl
      rw [eL]
      refine g_cntV (SqL.of upd_same) rfl rfl ?_
      walk_at "ss"
      refine ite_f (by rfl) ?_
      have sG : Same H (upd (upd (upd (upd H1 b (exK b (.ref (He.ga K "NoRule")) (some dd))) p1 (.lst [V.bl (subE "NoRule" "Off"), V.bl (subE "NoRule" "NoTaken"), V.bl (subE "NoRule" "NoName"), V.bl (subE "NoRule" "NoRule")])) p2 (.lst [V.bl (subE "NoRule" "TooMany"), V.bl (subE "NoRule" "NoDeed")])) l0 (.lst [V.bl false, V.bl false, V.bl false, V.bl true, V.bl false, V.bl false])) := (s1).trans (sm_new hl0 (sm_new hp2 (sm_new hp1 (same_new hb))))
      have fG := exAt_new (o := .lst [V.bl false, V.bl false, V.bl false, V.bl true, V.bl false, V.bl false]) hl0 (exAt_new (o := .lst [V.bl (subE "NoRule" "TooMany"), V.bl (subE "NoRule" "NoDeed")]) hp2 (exAt_new (o := .lst [V.bl (subE "NoRule" "Off"), V.bl (subE "NoRule" "NoTaken"), V.bl (subE "NoRule" "NoName"), V.bl (subE "NoRule" "NoRule")]) hp1 fa))
      have hG : (upd (upd (upd (upd H1 b (exK b (.ref (He.ga K "NoRule")) (some dd))) p1 (.lst [V.bl (subE "NoRule" "Off"), V.bl (subE "NoRule" "NoTaken"), V.bl (subE "NoRule" "NoName"), V.bl (subE "NoRule" "NoRule")])) p2 (.lst [V.bl (subE "NoRule" "TooMany"), V.bl (subE "NoRule" "NoDeed")])) l0 (.lst [V.bl false, V.bl false, V.bl false, V.bl true, V.bl false, V.bl false])) l0 = _ := upd_same
      generalize upd (upd (upd (upd H1 b (exK b (.ref (He.ga K "NoRule")) (some dd))) p1 (.lst [V.bl (subE "NoRule" "Off"), V.bl (subE "NoRule" "NoTaken"), V.bl (subE "NoRule" "NoName"), V.bl (subE "NoRule" "NoRule")])) p2 (.lst [V.bl (subE "NoRule" "TooMany"), V.bl (subE "NoRule" "NoDeed")])) l0 (.lst [V.bl false, V.bl false, V.bl false, V.bl true, V.bl false, V.bl false]) = G at sG fG hG ⊢
      clear hl0 hp2 hp1 hb fa eL
      walk_at "ss"
      rename_i p4 hp4
      exact q1 rs i d e a1 a2 a3 _ _ (sG.trans (same_new hp4)) (res_new upd_same (.int _) (.inr ⟨_, rfl⟩))
    · refine w_take (x := "TooMany") ce (by decide) (by decide) (by decide) fun b hb => ?_
      have fa := exAt_bare (H := H1) (a := b) ce (x := "TooMany") (by decide)
      walk_at "ss"
      rename_i p1 hp1 p2 hp2 l0 hl0
      have eL : ([V.bl (subE "TooMany" "Off"), V.bl (subE "TooMany" "NoTaken"), V.bl (subE "TooMany" "NoName"), V.bl (subE "TooMany" "NoRule")] ++ [V.bl (subE "TooMany" "TooMany"), V.bl (subE "TooMany" "NoDeed")]) = [V.bl false, V.bl false, V.bl false, V.bl false, V.bl true, V.bl false] := by rfl
      rw [eL]
      refine g_cntV (SqL.of upd_same) rfl rfl ?_
      walk_at "ss"
      refine ite_f (by rfl) ?_
      have sG : Same H (upd (upd (upd (upd H1 b (exK b (.ref (He.ga K "TooMany")) none)) p1 (.lst [V.bl (subE "TooMany" "Off"), V.bl (subE "TooMany" "NoTaken"), V.bl (subE "TooMany" "NoName"), V.bl (subE "TooMany" "NoRule")])) p2 (.lst [V.bl (subE "TooMany" "TooMany"), V.bl (subE "TooMany" "NoDeed")])) l0 (.lst [V.bl false, V.bl false, V.bl false, V.bl false, V.bl true, V.bl false])) := (s1).trans (sm_new hl0 (sm_new hp2 (sm_new hp1 (same_new hb))))
      have fG := exAt_new (o := .lst [V.bl false, V.bl false, V.bl false, V.bl false, V.bl true, V.bl false]) hl0 (exAt_new (o := .lst [V.bl (subE "TooMany" "TooMany"), V.bl (subE "TooMany" "NoDeed")]) hp2 (exAt_new (o := .lst [V.bl (subE "TooMany" "Off"), V.bl (subE "TooMany" "NoTaken"), V.bl (subE "TooMany" "NoName"), V.bl (subE "TooMany" "NoRule")]) hp1 fa))
      have hG : (upd (upd (upd (upd H1 b (exK b (.ref (He.ga K "TooMany")) none)) p1 (.lst [V.bl (subE "TooMany" "Off"), V.bl (subE "TooMany" "NoTaken"), V.bl (subE "TooMany" "NoName"), V.bl (subE "TooMany" "NoRule")])) p2 (.lst [V.bl (subE "TooMany" "TooMany"), V.bl (subE "TooMany" "NoDeed")])) l0 (.lst [V.bl false, V.bl false, V.bl false, V.bl false, V.bl true, V.bl false])) l0 = _ := upd_same
      generalize upd (upd (upd (upd H1 b (exK b (.ref (He.ga K "TooMany")) none)) p1 (.lst [V.bl (subE "TooMany" "Off"), V.bl (subE "TooMany" "NoTaken"), V.bl (subE "TooMany" "NoName"), V.bl (subE "TooMany" "NoRule")])) p2 (.lst [V.bl (subE "TooMany" "TooMany"), V.bl (subE "TooMany" "NoDeed")])) l0 (.lst [V.bl false, V.bl false, V.bl false, V.bl false, V.bl true, V.bl false]) = G at sG fG hG ⊢
      clear hl0 hp2 hp1 hb fa eL
      walk_at "ss"
      rename_i p3 hp3
      refine g_idxB (bs := [false, false, false, false, true, false]) (j := 4) (SqL.of (at_new hp3 hG)) rfl (by decide) ?_
      walk_at "ss"
      refine ⟨p3, _, 4, _, rfl, rfl, SqL.of upd_same, rfl, ?_⟩
      walk_at "ss"
      rename_i p4 hp4
      exact q2 rs us e a1 a2 _ _ (sG.trans (sm_new hp4 (same_new hp3))) (res_new upd_same .non (.inl rfl))
    · walk_at "ss"
      rename_i p4 hp4
      exact q3 rs us e a1 a2 _ _ M1 W1 (k1.trans (Same.kp (same_new hp4) _)) (J1.same (same_new hp4)) m1 (res_new upd_same .non (.inl rfl))
/-! YNs: drawn rules and names of a fresh inn (k81). -/
open PySem PySem.Spec PyProof.Rows L2 TL
theorem str_S (z : Str) : z = SX.S (tl z) := ext_tl (by simp [SX.S, tl])
theorem tl_S (l : List Nat) : tl (SX.S l) = l := by simp [SX.S, tl]
theorem sl_toE {z : Str} {i : Int} (h : 0 ≤ i) : Txt.slice z none (some i) = SX.S ((tl z).take i.toNat) := by
  conv => lhs; rw [str_S z]
  exact SX.slice_to h
theorem sl_fromE {z : Str} {i : Int} (h : 0 ≤ i) : Txt.slice z (some i) none = SX.S ((tl z).drop i.toNat) := by
  conv => lhs; rw [str_S z]
  exact SX.slice_from h
abbrev abcS : Str := "abcdefghijklmnopqrstuvwxyz"
theorem abc_at {i : Int} (h0 : 0 ≤ i) (h1 : i < 26) : atI abcS.cps.toList i = some (97 + i.toNat) := by
  obtain ⟨n, rfl⟩ := Int.eq_ofNat_of_zero_le h0
  have : ∀ n : Fin 26, atI abcS.cps.toList ((n : Nat) : Int) = some (97 + (n : Nat)) := by decide +kernel
  exact this ⟨n, by omega⟩
theorem g_abc {i : Int} {H : Hp} {Q : VK} (h0 : 0 ≤ i) (h1 : i < 26) (q : Q (.str ⟨#[97 + i.toNat]⟩) H) : rIxS (.str abcS) (.int i) H Q := ⟨abcS, i, _, rfl, rfl, by rw [sizeLine_eq]; decide, abc_at h0 h1, q⟩
theorem g_slX {z : Str} {lo hi : Option Int} {H : Hp} {Q : VK} (l : z.length ≤ 1000) (q : Q (.str (Txt.slice z lo hi)) H) : C8.rSlX (.str z) lo hi H Q := ⟨z, rfl, by rw [sizeLine_eq]; omega, q⟩
theorem g_addS {a b : Str} {H : Hp} {Q : VK} (l : a.length + b.length ≤ 1000) (q : Q (.str (a ++ b)) H) : rAddS (.str a) (.str b) H Q := ⟨a, b, rfl, rfl, by rw [sizeLine_eq]; omega, q⟩
/-- a name: its sign at a place -/
def NmOk (w c : Nat) (n : Str) : Prop := (tl n)[w]? = some c ∧ n.length ≤ 9
theorem nm_base {z : Str} {w c : Nat} (l : z.length ≤ 7) (h : w < z.length) : NmOk w c (SX.S ((tl z).take w) ++ ⟨#[c]⟩ ++ SX.S ((tl z).drop (w + 1))) ∧ (SX.S ((tl z).take w) ++ ⟨#[c]⟩ ++ SX.S ((tl z).drop (w + 1))).length ≤ 7 := by
  rw [len_tl] at l h
  have e : tl (SX.S ((tl z).take w) ++ ⟨#[c]⟩ ++ SX.S ((tl z).drop (w + 1))) = ((tl z).take w ++ [c]) ++ (tl z).drop (w + 1) := by
    rw [tl_append, tl_append, tl_S, tl_S, tl_one]
  have lt : ((tl z).take w).length = w := by rw [List.length_take]; omega
  unfold NmOk
  rw [len_tl, e]
  refine ⟨⟨?_, ?_⟩, ?_⟩
  · rw [List.getElem?_append_left (by rw [List.length_append, lt]; simp), List.getElem?_append_right (by omega), lt, Nat.sub_self]
    rfl
  · rw [List.length_append, List.length_append, lt, List.length_drop, List.length_singleton]
    omega
  · rw [List.length_append, List.length_append, lt, List.length_drop, List.length_singleton]
    omega
theorem nm_add {z : Str} {w c d : Nat} (l : z.length ≤ 7) (h : NmOk w c z) : NmOk w c (z ++ ⟨#[d]⟩) := by
  obtain ⟨h1, h2⟩ := h
  refine ⟨?_, ?_⟩
  · rw [tl_append]
    have := (List.getElem?_eq_some_iff.mp h1).1
    rw [List.getElem?_append_left this, h1]
  · rw [len_tl, tl_append, List.length_append, tl_one, List.length_singleton]
    rw [len_tl] at l
    omega
theorem nm_take {z : Str} {w c : Nat} {i : Int} (e : i = (w : Nat) + 1) (h : NmOk w c z) : NmOk w c (SX.S ((tl z).take i.toNat)) := by
  obtain ⟨h1, h2⟩ := h
  rw [len_tl] at h2
  unfold NmOk
  rw [len_tl, tl_S, List.getElem?_take, if_pos (by omega), List.length_take]
  exact ⟨h1, by omega⟩
/-- unlike names -/
structure NmsOk (ns : List Str) : Prop where
  nd : ns.Nodup
  ne : ∀ n ∈ ns, n ≠ "" ∧ n ≠ "A"
  len : ∀ n ∈ ns, n.length ≤ 9
theorem nms_ok {w : Nat} {f : Int} {ns : List Str} (f0 : 0 ≤ f) (f1 : f < 26) (l : ns.length ≤ 6) (h : ∀ (k : Nat) n, ns[k]? = some n → NmOk w (97 + ((f + k) % 26).toNat) n) : NmsOk ns := by
  refine ⟨?_, fun n hn => ?_, fun n hn => ?_⟩
  · refine List.pairwise_iff_getElem.mpr fun i j hi hj hij e => ?_
    obtain ⟨a, -⟩ := h i _ (List.getElem?_eq_getElem hi)
    obtain ⟨b, -⟩ := h j _ (List.getElem?_eq_getElem hj)
    rw [e, b] at a
    have := Option.some.inj a
    omega
  · obtain ⟨k, hk⟩ := List.getElem?_of_mem hn
    obtain ⟨a, -⟩ := h k _ hk
    constructor
    · rintro rfl
      have : tl ("" : Str) = [] := by decide
      rw [this] at a
      cases a
    · rintro rfl
      have : tl ("A" : Str) = [65] := by decide
      rw [this] at a
      have := List.mem_of_getElem? a
      simp at this
      omega
  · obtain ⟨k, hk⟩ := List.getElem?_of_mem hn
    exact (h k _ hk).2
theorem join_nil1 {zs : List Str} (h : ∀ z ∈ zs, z.length = 1) : (Txt.join "" zs).length = zs.length := by
  rw [join_eq, len_tl, tl_join]
  have e : tl ("" : Str) = [] := by decide
  rw [e]
  have : ∀ ls : List (List Nat), (∀ l ∈ ls, l.length = 1) → (joinL [] ls).length = ls.length := by
    intro ls
    induction ls with
    | nil => intro _; rfl
    | cons a r ih =>
      intro g
      cases r with
      | nil => exact g a (by simp)
      | cons b r =>
        show (a ++ ([] ++ joinL [] (b :: r))).length = _
        have h1 := g a (by simp)
        have h2 := ih fun l hl => g l (by simp [hl])
        rw [List.length_append, List.nil_append, h2, h1]
        simp
        omega
  rw [this _ fun l hl => ?_]
  · rw [List.length_map]
  · obtain ⟨z, hz, rfl⟩ := List.mem_map.mp hl
    rw [← len_tl]
    exact h z hz
theorem sum_one {zs : List Str} (h : ∀ z ∈ zs, z.length = 1) : (zs.map (·.length)).sum = zs.length := by
  induction zs with
  | nil => rfl
  | cons a r ih =>
    rw [List.map_cons, List.sum_cons, ih fun z hz => h z (by simp [hz]), h a (by simp)]
    simp
    omega
def sp_Lsome (K : PySem.W.Frag) : Sp := Sp2 fun x y H Q E => ∃ (t b s : Addr) (m : Int), x = .ref t ∧ y = .int m ∧ Tape H t b s ∧ 0 ≤ m ∧ m ≤ 30 ∧ ∀ (p : Addr) (ys : List V) (rs : List RuleD) (H' : Hp), Tape H' t b s → Kp [t, b] H H' → Fr H p → H' p = some (.lst ys) → Rus H' ys rs → (rs.length : Int) ≤ m → (∀ r ∈ rs, RuleD.good r) → Q (.ref p) H'
theorem g_Lsome {K : PySem.W.Frag} {t b s : Addr} {m : Int} {H : Hp} {Q : VK} {E : XK} (T : Tape H t b s) (h0 : 0 ≤ m) (h1 : m ≤ 30) (q : ∀ (p : Addr) (ys : List V) (rs : List RuleD) (H' : Hp), Tape H' t b s → Kp [t, b] H H' → Fr H p → H' p = some (.lst ys) → Rus H' ys rs → (rs.length : Int) ≤ m → (∀ r ∈ rs, RuleD.good r) → Q (.ref p) H') : sp_Lsome K ([.ref t, .int m] ++ []) H Q E := ⟨_, _, rfl, t, b, s, m, rfl, rfl, T, h0, h1, q⟩
def sp_Lnames (K : PySem.W.Frag) : Sp := Sp2 fun x y H Q E => ∃ (t b s : Addr), x = .ref t ∧ y = .int 6 ∧ Tape H t b s ∧ ∀ (p : Addr) (ns : List Str) (H' : Hp), Tape H' t b s → Kp [t, b] H H' → Fr H p → H' p = some (.lst (ns.map V.str)) → ns.length = 6 → NmsOk ns → Q (.ref p) H'
theorem g_Lnames {K : PySem.W.Frag} {t b s : Addr} {H : Hp} {Q : VK} {E : XK} (T : Tape H t b s) (q : ∀ (p : Addr) (ns : List Str) (H' : Hp), Tape H' t b s → Kp [t, b] H H' → Fr H p → H' p = some (.lst (ns.map V.str)) → ns.length = 6 → NmsOk ns → Q (.ref p) H') : sp_Lnames K ([.ref t, .int 6] ++ []) H Q E := ⟨_, _, rfl, t, b, s, rfl, rfl, T, q⟩
def t_Lsome (K : PySem.W.Frag) : TS :=
  (tRet (tLc (iRng1 (tCons (tCall (sp_Ltake K) [] E0 (tCons (tVar 0) (tCons (tOp rAdd (tVar 1) (tC (.int 1))) tNil))) tNil)) (gName 2) tYes (tCall (sp_Lrule K) [] E0 (tCons (tVar 0) (tCons (tC (.int 50)) tNil))) [2]))
theorem pure_Lsome {K : PySem.W.Frag} {x y : V} {H : Hp} {Q : VK} {E : XK} (h : sp_Lsome K [x, y] H Q E) : t_Lsome K { nx := fun _ H' => Q .non H', rt := Q } [some x, some y, none] H := by
  obtain ⟨x, y, e, t, b, s, m, rfl, rfl, T, h0, h1, q⟩ := h
  cases e
  unfold t_Lsome
  walk_at "ss"
  rename_i n1 H1 n10 n11 T1 k1
  refine lc_dr (lo := 0) (n := n1.toNat) T1 RuT (fun _ _ _ _ k h => h.tk k) RuleD.good (by omega) ?_ ?_
  · intro D i H2 N acc hD hi T2 hacc nD hN
    walk_at "ss"
    rename_i v r H3 T3 k3 hr hg
    exact hN _ _ _ hr hg T3 k3
  intro D H2 ys zs hD T2 k2 h2 r2 l2 g2
  walk_at "ss"
  exact q D ys zs H2 T2 (k1.trans k2) (fr_kp hD k1 (ni_tape hD T1)) h2 r2 (by omega) g2
def t_Lnames (K : PySem.W.Frag) : TS :=
  (tSeq (tAsg (tC (.str "abcdefghijklmnopqrstuvwxyz")) (gName 2))
  (tSeq (tAsg (tOp rAdd (tC (.int 1)) (tCall (sp_Ltake K) [] E0 (tCons (tVar 0) (tCons (tC (.int 7)) tNil)))) (gName 3))
  (tSeq (tAsg (tM1 (Y.rJoinT K) (tC (.str "")) (tLc (iRng1 (tCons (tVar 3) tNil)) (gName 4) tYes (tOp rIxS (tVar 2) (tCall (sp_Ltake K) [] E0 (tCons (tVar 0) (tCons (tC (.int 26)) tNil)))) [4])) (gName 5))
  (tSeq (tAsg (tCall (sp_Ltake K) [] E0 (tCons (tVar 0) (tCons (tVar 3) tNil))) (gName 6))
  (tSeq (tAsg (tCall (sp_Ltake K) [] E0 (tCons (tVar 0) (tCons (tC (.int 26)) tNil))) (gName 7))
  (tSeq (tAsg (tLst tNil) (gName 8))
  (tSeq (tFor (iRng1 (tCons (tVar 1) tNil)) (gName 4)
  (tSeq (tAsg (tOp rAddS (tOp rAddS (tSl C8.rSlX (tVar 5) tNoPart (tPart (tVar 6))) (tOp rIxS (tVar 2) (tOp rMod (tOp rAdd (tVar 7) (tVar 4)) (tC (.int 26))))) (tSl C8.rSlX (tVar 5) (tPart (tOp rAdd (tVar 6) (tC (.int 1)))) tNoPart)) (gName 9))
  (tDrop (tBM K "list" rAppend (tVar 8) (tCons (tOp (rIxL K) (tLst (tCons (tVar 9) (tCons (tOp rAddS (tVar 9) (tOp rIxS (tVar 2) (tCall (sp_Ltake K) [] E0 (tCons (tVar 0) (tCons (tC (.int 26)) tNil))))) (tCons (tSl C8.rSlX (tVar 9) tNoPart (tPart (tOp rAdd (tVar 6) (tC (.int 1))))) tNil)))) (tCall (sp_Ltake K) [] E0 (tCons (tVar 0) (tCons (tC (.int 3)) tNil)))) tNil)))))
  (tRet (tVar 8)))))))))
theorem pure_Lnames {K : PySem.W.Frag} {x y : V} {H : Hp} {Q : VK} {E : XK} (h : sp_Lnames K [x, y] H Q E) : t_Lnames K { nx := fun _ H' => Q .non H', rt := Q } ([some x, some y] ++ List.replicate 8 none) H := by
  obtain ⟨x, y, e, t, b, s, rfl, rfl, T, q⟩ := h
  cases e
  dsimp only [List.replicate, List.append, List.cons_append, List.nil_append]
  unfold t_Lnames
  walk_at "ss"
  rename_i n1 H1 n10 n11 T1 k1
  refine g_m1 ?_
  walk_at "ss"
  refine g_isS ?_
  walk_at "ss"
  refine lc_dr (lo := 0) (n := (1 + n1).toNat) T1 (fun _ v (z : Str) => v = .str z) (fun _ _ _ _ _ h => h) (fun z => z.length = 1) (by omega) ?_ ?_
  · intro D i H2 N acc hD hi T2 hacc nD hN
    walk_at "ss"
    rename_i c H3 c0 c1 T3 k3
    refine g_abc c0 c1 ?_
    exact hN _ _ _ rfl rfl T3 k3
  intro D H2 ys zs hD T2 k2 h2 hp hlen hg
  obtain rfl : ys = zs.map V.str := by
    clear h2 hlen hg
    induction hp with
    | nil => rfl
    | cons a _ ih => rw [a, ih]; rfl
  have lj := join_nil1 hg
  have sj := sum_one hg
  refine g_join (SqL.of h2) (by rw [sj]; show zs.length + zs.length * 0 ≤ _; omega) ?_
  clear h2 hD hp sj
  generalize Txt.join "" zs = z at lj ⊢
  walk_at "ss"
  rename_i w H3 w0 w1 T3 k3 f H4 f0 f1 T4 k4 p hp
  have kk : Kp [t, b] H H4 := k1.trans (k2.trans (k3.trans k4))
  have np := ni_tape hp T4
  have fp : Fr H p := fr_kp hp kk (ni_tape hp T4)
  have lz : z.length ≤ 7 := by omega
  have wz : w.toNat < z.length := by omega
  have T5 := tape_new (o := .lst []) hp T4
  have k5 := kp_new (o := .lst []) hp kk
  refine for_range (fun i σ H' => ∃ v4 v9 ns, σ = [some (.ref t), some (.int 6), some (.str abcS), some (.int (1 + n1)), v4, some (.str z), some (.int w), some (.int f), some (.ref p), v9] ∧ Tape H' t b s ∧ Kp [t, b] H H' ∧ H' p = some (.lst (ns.map V.str)) ∧ ns.length = i ∧ ∀ (k : Nat) n, ns[k]? = some n → NmOk w.toNat (97 + ((f + k) % 26).toNat) n) ⟨_, _, [], rfl, T5, k5, upd_same, rfl, by simp⟩ ?_ ?_
  · clear T1 T2 T3 T4 T5 k1 k2 k3 k4 k5 kk hp
    rintro i σ H' hi ⟨v4, v9, ns, rfl, T', k', h', l', g'⟩
    walk_at "ss"
    refine g_slX (by omega) ?_
    rw [sl_toE w0]
    walk_at "ss"
    refine g_abc (by omega) (by omega) ?_
    rw [show (0 : Int) + (i : Int) = (i : Nat) by omega]
    walk_at "ss"
    refine g_addS (by rw [SX.S_len, List.length_take, ← len_tl]; show min w.toNat z.length + 1 ≤ 1000; omega) ?_
    walk_at "ss"
    refine g_slX (by omega) ?_
    rw [sl_fromE (by omega), show (w + 1).toNat = w.toNat + 1 by omega]
    obtain ⟨nm, ln⟩ := nm_base (c := 97 + ((f + (i : Nat)) % 26).toNat) lz wz
    refine g_addS (by have := ln; rw [len_app] at this; omega) ?_
    generalize (SX.S ((tl z).take w.toNat) ++ (⟨#[97 + ((f + (i : Nat)) % 26).toNat]⟩ : Str) ++ SX.S ((tl z).drop (w.toNat + 1))) = n at nm ln ⊢
    walk_at "ss"
    rename_i c H5 c0 c1 T5 k5
    refine g_abc c0 c1 ?_
    refine g_addS (by show n.length + 1 ≤ _; omega) ?_
    walk_at "ss"
    refine g_slX (by omega) ?_
    rw [sl_toE (by omega)]
    walk_at "ss"
    rename_i p6 hp6 d H6 d0 d1 T6 k6 x hx
    obtain ⟨n', rfl, gn⟩ : ∃ n', x = .str n' ∧ NmOk w.toNat (97 + ((f + (i : Nat)) % 26).toNat) n' := by
      simp only [List.mem_cons, List.not_mem_nil, or_false] at hx
      rcases hx with rfl | rfl | rfl
      · exact ⟨_, rfl, nm⟩
      · exact ⟨_, rfl, nm_add ln nm⟩
      · exact ⟨_, rfl, nm_take (by omega) nm⟩
    have T7 : Tape H6 t b s := T6
    have h6 : H6 p = some (.lst (ns.map V.str)) := k6 _ _ (at_new hp6 (k5 _ _ h' np)) np
    refine ⟨_, _, ns ++ [n'], rfl, tape_own fp T T6, kp_own fp (k'.trans (k5.trans (kp_tr k6 (Same.kp (same_new hp6) _)))), by rw [upd_same, List.map_append]; rfl, by simp [l'], fun k m hm => ?_⟩
    rcases Nat.lt_or_ge k ns.length with hk | hk
    · rw [List.getElem?_append_left hk] at hm
      exact g' k m hm
    · rw [List.getElem?_append_right hk] at hm
      have := List.getElem?_eq_some_iff.mp hm
      obtain ⟨h1, h2⟩ := this
      simp at h1
      obtain rfl : k = i := by omega
      rw [← l', Nat.sub_self] at hm
      cases hm
      exact gn
  · rintro σ H' ⟨v4, v9, ns, rfl, T', k', h', l', g'⟩
    walk_at "ss"
    exact q p ns H' T' k' fp h' (by simpa using l') (nms_ok f0 f1 (by simp at l'; omega) g')
/-! YNq: an inn asked (k81): no name, fresh. -/
open PySem PySem.Spec PyProof.Rows L2 TL
theorem InnAt.ok' {K : PySem.W.Frag} {H : Hp} {M W : List Addr} {v : V} {m : Int} {sh : Shf} {pa : List Shf} (I : InnAt K H M W v m sh pa) : ShOk sh := by
  obtain ⟨a, dx, s, t, p, ps, rfl, rfl, I⟩ := I
  exact I.ok
/-- what is told of the classes -/
structure CIn (K : PySem.W.Frag) : Prop where
  ci : CFI K
  c : CFR K
  cb : CFB K
  cs : CEI K
/-- a result: a word and None -/
def NoAt (H : Hp) (v : V) (w : Str) : Prop := ∃ t, v = .ref t ∧ H t = some (.tup [.str w, .non])
theorem ResAt.no {H : Hp} {r : V} {w : Str} (h : ResAt H r w .none) : NoAt H r w := by
  obtain ⟨t, x, rfl, h, a, -⟩ := h
  cases a
  exact ⟨t, rfl, h⟩
theorem no_tk {G G' : Hp} {v : V} {w : Str} (k : Tk G G') (h : NoAt G v w) : NoAt G' v w := let ⟨t, e, h⟩ := h; ⟨t, e, k _ _ h⟩
theorem no_same {G G' : Hp} {v : V} {w : Str} (s : Same G G') (h : NoAt G v w) : NoAt G' v w := no_tk (Same.tk s) h
abbrev noD (w : Str) : PyData := .tuple [.str w, .none]
theorem NoAt.dp {K : PySem.W.Frag} {H : Hp} {v : V} {w : Str} (h : NoAt H v w) : Dp K H v (noD w) := by
  obtain ⟨t, rfl, h⟩ := h
  exact .tup (SqT.of h) (.cons (.str _) (.cons .non .nil))
theorem dp_nos {K : PySem.W.Frag} {H : Hp} : ∀ {vs : List V} {ws : List Str}, Paired (NoAt H) vs ws → DpAll K H vs (ws.map noD)
  | _, _, .nil => .nil
  | _, _, .cons a t => .cons a.dp (dp_nos t)
theorem lookS_of {n : Str} {rs : List RuleD} : ∀ {sh : Shf}, (sh.map (·.1)).Nodup → (n, rs) ∈ sh → lookS sh n = some rs
  | [], _, h => by cases h
  | (m, us) :: r, nd, h => by
    rw [List.map_cons, List.nodup_cons] at nd
    by_cases e : m = n
    · subst e
      rcases List.mem_cons.mp h with h | h
      · cases h
        simp [lookS, List.find?_cons]
      · exact absurd (List.mem_map.mpr ⟨_, h, rfl⟩) nd.1
    · rcases List.mem_cons.mp h with h | h
      · cases h
        exact absurd rfl e
      · have := lookS_of nd.2 h
        unfold lookS at this ⊢
        rw [List.find?_cons, decide_eq_false e]
        exact this
theorem lookS_none {n : Str} : ∀ {sh : Shf}, n ∉ sh.map (·.1) → lookS sh n = none
  | [], _ => rfl
  | (m, us) :: r, h => by
    rw [List.map_cons, List.mem_cons, not_or] at h
    have := lookS_none h.2
    unfold lookS at this ⊢
    rw [List.find?_cons, decide_eq_false (fun e => h.1 e.symm)]
    exact this
theorem dp_rep {K : PySem.W.Frag} {H : Hp} {v : V} {w : Str} : ∀ k : Nat, NoAt H v w → DpAll K H (List.replicate k [v]).flatten ((List.replicate k w).map noD)
  | 0, _ => .nil
  | k + 1, h => .cons h.dp (dp_rep k h)
theorem sh_no {w : Str} (h : PyData.strOk w = true) : Sh 1 (noD w) := sh_tup fun d hd => by
  simp only [List.mem_cons, List.not_mem_nil, or_false] at hd
  rcases hd with rfl | rfl
  · exact sh_str h _
  · exact sh_non _
theorem sh_nos {w : Str} (h : PyData.strOk w = true) (k : Nat) : Sh 2 (.list ((List.replicate k w).map noD)) := sh_lst fun d hd => by
  obtain ⟨x, hx, rfl⟩ := List.mem_map.mp hd
  rw [(List.mem_replicate.mp hx).2]
  exact sh_no h
def sp_Lno_name (K : PySem.W.Frag) : Sp := Sp2 fun v y H Q E => CIn K ∧ ∃ M W m sh pa n, InnAt K H M W v m sh pa ∧ y = .str n ∧ lookS sh n = none ∧ pa.length ≤ 1000 ∧ ∀ H', Same H H' → Q (.bl true) H'
theorem g_Lno_name {K : PySem.W.Frag} {M W : List Addr} {v : V} {m : Int} {sh : Shf} {pa : List Shf} {n : Str} {H : Hp} {Q : VK} {E : XK} (c : CIn K) (I : InnAt K H M W v m sh pa) (l : lookS sh n = none) (lp : pa.length ≤ 1000) (q : ∀ H', Same H H' → Q (.bl true) H') : sp_Lno_name K ([v, .str n] ++ []) H Q E := ⟨_, _, rfl, c, M, W, m, sh, pa, n, I, rfl, l, lp, q⟩
def sp_Lis_fresh (K : PySem.W.Frag) : Sp := Sp2 fun v y H Q E => CIn K ∧ ∃ M W m sh p xs, InnAt K H M W v m sh [] ∧ y = .ref p ∧ H p = some (.lst xs) ∧ Paired (NrAt H) xs sh ∧ ∀ H', Same H H' → Q (.bl true) H'
theorem g_Lis_fresh {K : PySem.W.Frag} {M W : List Addr} {v : V} {m : Int} {sh : Shf} {p : Addr} {xs : List V} {H : Hp} {Q : VK} {E : XK} (c : CIn K) (I : InnAt K H M W v m sh []) (h : H p = some (.lst xs)) (hp : Paired (NrAt H) xs sh) (q : ∀ H', Same H H' → Q (.bl true) H') : sp_Lis_fresh K ([v, .ref p] ++ []) H Q E := ⟨_, _, rfl, c, M, W, m, sh, p, xs, I, rfl, h, hp, q⟩
def t_Lno_name (K : PySem.W.Frag) : TS :=
  (tSeq (tAsg (tC (.bl false)) (gName 2))
  (tSeq (tTryO K (.ref (He.ga K "NoName")) (fun W1 => (tDrop (tMethX (He.ga K "Inn") "rules_of" (spx_Inn_rules_of K) [] W1 (tVar 0) (tCons (tVar 1) tNil)))) (tAsg (tC (.bl true)) (gName 2)) (fun _ _ _ _ => False))
  (tSeq (tAsg (tLst (tCons (tTup (tCons (tC (.str "lay")) (tCons (tVar 1) (tCons (tLst (tCons (tC .non) tNil)) tNil)))) (tCons (tTup (tCons (tC (.str "lay")) (tCons (tVar 1) (tCons (tLst tNil) tNil)))) (tCons (tTup (tCons (tC (.str "tidy")) (tCons (tVar 1) tNil))) tNil)))) (gName 3))
  (tRet (tAndV (tVar 2) (tOp (rEqD K) (tLc (iList K (tVar 3)) (gName 4) tYes (tCall (sp_Ldone K) [] E0 (tCons (tVar 0) (tCons (tVar 4) tNil))) [4]) (tOp rRep (tLst (tCons (tTup (tCons (tC (.str "no name")) (tCons (tC .non) tNil))) tNil)) (tC (.int 3)))))))))
theorem pure_Lno_name {K : PySem.W.Frag} {x y : V} {H : Hp} {Q : VK} {E : XK} (h : sp_Lno_name K [x, y] H Q E) : t_Lno_name K { nx := fun _ H' => Q .non H', rt := Q } [some x, some y, none, none, none] H := by
  obtain ⟨x, y, e, ⟨ci, c, cb, cs⟩, M, W, m, sh, pa, n, J, rfl, l, lp, q⟩ := h
  cases e
  unfold t_Lno_name
  walk_at "ss"
  refine g_imethX (n := 0) rfl J (by decide) ?_
  walk_at "ss"
  refine gx_irules ci c cb cs.c1 J (fun rs p H' ys e => by rw [l] at e; cases e) fun _ => ?_
  refine w_takeO (x := "NoName") cs.ce (by decide) (by decide) (by decide) ?_
  walk_at "ss"
  rename_i p1 hp1 t1 ht1 p2 hp2 t2 ht2 t3 ht3 L hL
  obtain ⟨G, eG⟩ : ∃ G, G = upd (upd (upd (upd (upd (upd H p1 (.lst [.non])) t1 (.tup [.str "lay", .str n, .ref p1])) p2 (.lst [])) t2 (.tup [.str "lay", .str n, .ref p2])) t3 (.tup [.str "tidy", .str n])) L (.lst [.ref t1, .ref t2, .ref t3]) := ⟨_, rfl⟩
  have sG : Same H G := by rw [eG]; exact sm_new hL (sm_new ht3 (sm_new ht2 (sm_new hp2 (sm_new ht1 (same_new hp1)))))
  have g1 : G p1 = some (.lst [.non]) := by rw [eG]; exact at_new hL (at_new ht3 (at_new ht2 (at_new hp2 (at_new ht1 upd_same))))
  have k1 : G t1 = some (.tup [.str "lay", .str n, .ref p1]) := by rw [eG]; exact at_new hL (at_new ht3 (at_new ht2 (at_new hp2 upd_same)))
  have g2 : G p2 = some (.lst []) := by rw [eG]; exact at_new hL (at_new ht3 (at_new ht2 upd_same))
  have k2 : G t2 = some (.tup [.str "lay", .str n, .ref p2]) := by rw [eG]; exact at_new hL (at_new ht3 upd_same)
  have k3 : G t3 = some (.tup [.str "tidy", .str n]) := by rw [eG]; exact at_new hL upd_same
  have gL : G L = some (.lst [.ref t1, .ref t2, .ref t3]) := by rw [eG]; exact upd_same
  rw [← eG]
  clear eG hp1 ht1 hp2 ht2 ht3 hL
  refine lc_r (walk_list (K := K) (a := L) (xs := [.ref t1, .ref t2, .ref t3])) NoAt (fun _ _ _ _ k h => no_tk k h) (fun _ => some "no name") (show 3 < 100000 by decide) (fun H' s => SqL.of (s _ _ gL)) ?_ ?_
  · rintro D j x Ha Hb N hD hj sa ⟨rfl, hx⟩ hy hn
    have Ja := J.same (sG.trans sa)
    have fin : ∀ r H', Same Hb H' → ResAt H' r "no name" .none → ∃ acc, H' D = some (.lst acc) ∧ acc.length < sizeLine ∧ N (upd H' D (.lst (acc ++ [r]))) := fun r H' s R => hy r _ H' rfl s R.no
    match j, hx with
    | 0, hx =>
      cases hx
      walk_at "ss"
      refine g_Ldone ci c cb cs Ja lp (.lay n p1 [.non] [.none] (sa _ _ k1) (sa _ _ g1) (.cons .non .nil) (by decide) (fun _ => fin) (fun rs i d e => ?_) (fun rs us e => ?_) fun rs us e => ?_)
      all_goals (rw [l] at e; cases e)
    | 1, hx =>
      cases hx
      walk_at "ss"
      refine g_Ldone ci c cb cs Ja lp (.lay n p2 [] [] (sa _ _ k2) (sa _ _ g2) .nil (by decide) (fun _ => fin) (fun rs i d e => ?_) (fun rs us e => ?_) fun rs us e => ?_)
      all_goals (rw [l] at e; cases e)
    | 2, hx =>
      cases hx
      walk_at "ss"
      exact g_Ldone ci c cb cs Ja lp (.tidy n (sa _ _ k3) l fin)
    | _ + 3, hx => cases hx
  intro D H' ys hD sD hys hR
  walk_at "ss"
  rename_i u hu l3 hl3
  refine g_rep upd_same (by decide) (by decide) (show 1 ≤ 100 by decide) fun r hr => ?_
  walk_at "ss"
  refine g_eqD_same (.lst (SqL.of (at_new hr (at_new hl3 (at_new hu hys)))) (dp_nos (ws := List.replicate 3 "no name") (Paired.mapP hR fun _ _ z => no_same (sm_new hr (sm_new hl3 (same_new hu))) z))) (.lst (SqL.of upd_same) (dp_rep 3 ⟨_, rfl, at_new hr (at_new hl3 upd_same)⟩)) (sh_nos (by decide +kernel) 3) (by decide) ?_
  exact q _ (sG.trans (sD.trans (sm_new hr (sm_new hl3 (same_new hu)))))
def t_Lis_fresh (K : PySem.W.Frag) : TS :=
  (tSeq (tIfS (tTest (tOp (rNeD K) (tTup (tCons (tMeth (He.ga K "Inn") "standing" (sp_Inn_standing K) [] E0 (tVar 0) tNil) (tCons (tMeth (He.ga K "Inn") "full" (sp_Inn_full K) [] E0 (tVar 0) tNil) (tCons (tMeth (He.ga K "Inn") "rooms" (sp_Inn_rooms K) [] E0 (tVar 0) tNil) tNil)))) (tTup (tCons (tLst tNil) (tCons (tLst tNil) (tCons (tLst tNil) tNil))))))
  (tRet (tC (.bl false)))
  tNext)
  (tSeq (tIfS (tTest (tOp (rNeD K) (tLc (iList K (tVar 1)) (gTup K 2 (gCons (gName 4) (gCons (gName 5) gNil))) tYes (tMeth (He.ga K "Inn") "rules_of" (sp_Inn_rules_of K) [] E0 (tVar 0) (tCons (tVar 4) tNil)) [4, 5]) (tLc (iList K (tVar 1)) (gTup K 2 (gCons (gName 4) (gCons (gName 5) gNil))) tYes (tVar 5) [4, 5])))
  (tRet (tC (.bl false)))
  tNext)
  (tSeq (tAsg (tLc (iTup K (tTup (tCons (tC (.int 0)) (tCons (tC (.int 1)) (tCons (tUn rNeg (tC (.int 1))) (tCons (tOp rPow (tC (.int 10)) (tC (.int 30))) tNil)))))) (gName 3) tYes (tCall (sp_Ldone K) [] E0 (tCons (tVar 0) (tCons (tTup (tCons (tC (.str "back")) (tCons (tVar 3) tNil))) tNil))) [3]) (gName 2))
  (tRet (tAndV (tOp (rEqD K) (tVar 2) (tOp rRep (tLst (tCons (tTup (tCons (tC (.str "no taken")) (tCons (tC .non) tNil))) tNil)) (tC (.int 4)))) (tOp (rEqD K) (tCall (sp_Ldone K) [] E0 (tCons (tVar 0) (tCons (tTup (tCons (tC (.str "undo")) tNil)) tNil))) (tTup (tCons (tC (.str "no deed")) (tCons (tC .non) tNil)))))))))
theorem pure_Lis_fresh {K : PySem.W.Frag} {x y : V} {H : Hp} {Q : VK} {E : XK} (h : sp_Lis_fresh K [x, y] H Q E) : t_Lis_fresh K { nx := fun _ H' => Q .non H', rt := Q } [some x, some y, none, none, none, none] H := by
  obtain ⟨x, y, e, ⟨ci, c, cb, cs⟩, M, W, m, sh, p, xs, J, rfl, h, hp, q⟩ := h
  cases e
  unfold t_Lis_fresh
  walk_at "ss"
  refine g_irobj J (by decide) ?_
  walk_at "ss"
  refine g_inone ci J fun p1 H1 s1 f1 h1 => ?_
  have J1 := J.same s1
  walk_at "ss"
  refine g_irobj J1 (by decide) ?_
  walk_at "ss"
  refine g_inone ci J1 fun p2 H2 s2 f2 h2 => ?_
  have J2 := J1.same s2
  walk_at "ss"
  refine g_irobj J2 (by decide) ?_
  walk_at "ss"
  refine g_inone ci J2 fun p3 H3 s3 f3 h3 => ?_
  walk_at "ss"
  rename_i t1 ht1 l1 hl1 l2 hl2 l3 hl3 t2 ht2
  obtain ⟨G, eG⟩ : ∃ G, G = upd (upd (upd (upd (upd H3 t1 (.tup [.ref p1, .ref p2, .ref p3])) l1 (.lst [])) l2 (.lst [])) l3 (.lst [])) t2 (.tup [.ref l1, .ref l2, .ref l3]) := ⟨_, rfl⟩
  have sG : Same H3 G := by rw [eG]; exact sm_new ht2 (sm_new hl3 (sm_new hl2 (sm_new hl1 (same_new ht1))))
  have g1 : G t1 = some (.tup [.ref p1, .ref p2, .ref p3]) := by rw [eG]; exact at_new ht2 (at_new hl3 (at_new hl2 (at_new hl1 upd_same)))
  have g2 : G t2 = some (.tup [.ref l1, .ref l2, .ref l3]) := by rw [eG]; exact upd_same
  have e1 : G l1 = some (.lst []) := by rw [eG]; exact at_new ht2 (at_new hl3 (at_new hl2 upd_same))
  have e2 : G l2 = some (.lst []) := by rw [eG]; exact at_new ht2 (at_new hl3 upd_same)
  have e3 : G l3 = some (.lst []) := by rw [eG]; exact at_new ht2 upd_same
  rw [← eG]
  have S1 : Same H1 G := s2.trans (s3.trans sG)
  have S2 : Same H2 G := s3.trans sG
  have SG : Same H G := s1.trans S1
  refine g_neD_same (d := .tuple [.list [], .list [], .list []]) (n := 3) (.tup (SqT.of g1) (.cons (.lst (SqL.of (S1 _ _ h1)) .nil) (.cons (.lst (SqL.of (S2 _ _ h2)) .nil) (.cons (.lst (SqL.of (sG _ _ h3)) .nil) .nil)))) (.tup (SqT.of g2) (.cons (.lst (SqL.of e1) .nil) (.cons (.lst (SqL.of e2) .nil) (.cons (.lst (SqL.of e3) .nil) .nil)))) (sh_tup fun d hd => ?_) (by decide) ?_
  · simp at hd
    rw [hd]
    exact sh_lst fun d hd => by cases hd
  have JG := J.same SG
  have hG := SG _ _ h
  have hpG : Paired (NrAt G) xs sh := Paired.mapP hp fun _ _ z => nr_keep (Same.kp SG []) (Same.tk SG) (fun _ _ _ _ => by simp) z
  clear eG e1 e2 e3 g1 g2 S1 S2 h1 h2 h3 f1 f2 f3 J1 J2 s1 s2 s3 sG ht1 ht2 hl1 hl2 hl3
  have xl := Paired.length hp
  have few := JG.ok'.few
  have eF : (List.range xs.length).filterMap (fun i => (sh[i]?).map (·.2)) = sh.map (·.2) := by
    rw [xl]
    have := range_flt sh fun e => some e.2
    rw [List.filterMap_eq_map'] at this
    rw [← this]
    congr 1
    funext i
    cases sh[i]? <;> rfl
  walk_at "ss"
  refine lc_own (walk_list (K := K) (a := p) (xs := xs)) RlD rlD_s rlD_p (fun i => (sh[i]?).map (·.2)) (by omega) (fun H' s => SqL.of (s _ _ hG)) ?_ ?_
  · rintro D j x Ha Hb N hD hj sa ⟨acc, hacc⟩ ⟨rfl, hx⟩ hy hn
    obtain ⟨⟨n, rs⟩, hk, ha⟩ := Paired.getL hpG hx
    obtain ⟨t, q', ys, rfl, ht, hq, hR⟩ := ha
    have ht := sa _ _ ht
    dsimp only at ht hR
    walk_at "ss"
    refine g_irobj (JG.same sa) (by decide) ?_
    walk_at "ss"
    refine g_irules ci c cb (JG.same sa) (lookS_of JG.ok'.nd (List.mem_of_getElem? hk)) fun p' H' ys' s' f' h' R' => ?_
    refine hy _ rs H' (by rw [hk]; rfl) s' ⟨p', ys', rfl, fun z => ?_, h', R'⟩
    rw [z] at f'
    rw [show Hb D = none from f'] at hacc
    cases hacc
  intro D H' ys hD sD hys hR
  rw [eF] at hR
  have hG' := sD _ _ hG
  have hpG' : Paired (NrAt H') xs sh := Paired.mapP hpG fun _ _ z => nr_keep (Same.kp sD []) (Same.tk sD) (fun _ _ _ _ => by simp) z
  have JG' := JG.same sD
  have SG' := SG.trans sD
  have hR : Paired (RlAt H') ys (sh.map (·.2)) := Paired.mapP hR fun _ _ z => z.at
  clear hG hpG JG SG sD hD
  walk_at "ss"
  refine lc_own (walk_list (K := K) (a := p) (xs := xs)) RlD rlD_s rlD_p (fun i => (sh[i]?).map (·.2)) (by omega) (fun H' s => SqL.of (s _ _ hG')) ?_ ?_
  · rintro D2 j x Ha Hb N hD hj sa ⟨acc, hacc⟩ ⟨rfl, hx⟩ hy hn
    obtain ⟨⟨n, rs⟩, hk, ha⟩ := Paired.getL hpG' hx
    obtain ⟨t, q', ys, rfl, ht, hq, hR⟩ := ha
    have ht := sa _ _ ht
    dsimp only at ht hR
    walk_at "ss"
    refine hy _ rs Hb (by rw [hk]; rfl) (Same.refl _) ⟨q', ys, rfl, fun z => ?_, sa _ _ hq, ru_same sa hR⟩
    rw [z] at hq
    rw [show H' D2 = none from hD] at hq
    cases hq
  intro D2 H2 ys2 hD2 sD2 hys2 hR2
  rw [eF] at hR2
  have hR2 : Paired (RlAt H2) ys2 (sh.map (·.2)) := Paired.mapP hR2 fun _ _ z => z.at
  have hR1 : Paired (RlAt H2) ys (sh.map (·.2)) := Paired.mapP hR fun _ _ ⟨q, xs, e, h1, h2⟩ => ⟨q, xs, e, sD2 _ _ h1, ru_same sD2 h2⟩
  have gd : GoodB (sh.map (·.2)) := fun rs hrs r hr => by
    obtain ⟨e, he, rfl⟩ := List.mem_map.mp hrs
    exact JG'.ok'.good e he r hr
  refine g_neD_same (.lst (SqL.of (sD2 _ _ hys)) (dp_rls hR1)) (.lst (SqL.of hys2) (dp_rls hR2)) (sh_rls gd) (by decide) ?_
  have J2 := JG'.same sD2
  have S2 := SG'.trans sD2
  clear hR hR1 hR2 hys hys2 hD2 JG' SG' hG' hpG' eF
  walk_at "ss"
  rename_i tt htt
  refine lc_r (walk_tup (K := K) (a := tt) (xs := [V.int _, V.int _, V.int _, V.int _])) NoAt (fun _ _ _ _ k h => no_tk k h) (fun _ => some "no taken") (show 4 < 100000 by decide) (fun H' s => SqT.of (s _ _ upd_same)) ?_ ?_
  · rintro D j x Ha Hb N hD hj sa ⟨rfl, hx⟩ hy hn
    obtain ⟨k, rfl⟩ : ∃ k : Int, x = .int k := by
      have := List.mem_of_getElem? hx
      simp only [List.mem_cons, List.not_mem_nil, or_false] at this
      rcases this with rfl | rfl | rfl | rfl <;> exact ⟨_, rfl⟩
    walk_at "ss"
    rename_i t2 ht2
    exact g_Ldone ci c cb cs ((J2.same (same_new htt)).same (sm_new ht2 sa)) (Nat.zero_le _) (.back k upd_same fun r H' s R => hy r _ H' rfl ((same_new ht2).trans s) R.no)
  intro D H' ys hD sD hys hR
  have JD := (J2.same (same_new htt)).same sD
  have SD := S2.trans ((same_new htt).trans sD)
  clear hD sD S2 J2 gd
  walk_at "ss"
  rename_i u hu l3 hl3
  refine g_rep upd_same (by decide) (by decide) (show 1 ≤ 100 by decide) fun r hr => ?_
  walk_at "ss"
  refine g_eqD_same (.lst (SqL.of (at_new hr (at_new hl3 (at_new hu hys)))) (dp_nos (ws := List.replicate 4 "no taken") (Paired.mapP hR fun _ _ z => no_same (sm_new hr (sm_new hl3 (same_new hu))) z))) (.lst (SqL.of upd_same) (dp_rep 4 ⟨_, rfl, at_new hr (at_new hl3 upd_same)⟩)) (sh_nos (by decide +kernel) 4) (by decide) ?_
  have sU := sm_new (o := .lst (List.replicate (Int.toNat 4) [V.ref u]).flatten) hr (sm_new (o := .lst [.ref u]) hl3 (same_new (o := .tup [.str "no taken", .non]) hu))
  walk_at "ss"
  rename_i t4 ht4
  refine g_Ldone ci c cb cs ((JD.same sU).same (same_new ht4)) (Nat.zero_le _) (.undo upd_same (fun _ y H4 s4 R => ?_) fun pa' sh' e => ?_)
  · obtain ⟨t5, rfl, h5⟩ := R.no
    walk_at "ss"
    rename_i t6 ht6
    refine g_eqD_same (d := noD "no deed") (NoAt.dp ⟨_, rfl, at_new ht6 h5⟩) (NoAt.dp ⟨_, rfl, upd_same⟩) (sh_no (by decide +kernel)) (by decide) ?_
    exact q _ (SD.trans (sU.trans ((same_new ht4).trans (s4.trans (same_new ht6)))))
  · exact absurd (congrArg List.length e) (by simp)
/-! YNl: rules laid over a book of an inn (k81). -/
open PySem PySem.Spec PyProof.Rows L2 TL
theorem kp_wide {H H1 H2 : Hp} {L L1 : List Addr} (k : Kp L H H1) (k2 : Kp L1 H1 H2) (h : ∀ x ∈ L1, x ∈ L ∨ Fr H x) : Kp L H H2 := fun b o e n => k2 _ _ (k _ _ e n) fun z => by
  rcases h b z with z | z
  · exact n z
  · rw [show H b = none from z] at e
    cases e
theorem g_insV {H : Hp} {Q : VK} {l : Addr} {xs : List V} {i : Int} {y : V} (h : H l = some (.lst xs)) (z : xs.length ≤ 1000) (h0 : 0 ≤ i) (h1 : i ≤ 1000) (q : Q .non (upd H l (.lst (xs.take i.toNat ++ [y] ++ xs.drop i.toNat)))) : rInsert (.ref l) [.int i, y] H Q := ⟨l, xs, i, y, rfl, rfl, h, by rw [sizeLine_eq]; omega, h0, by omega, q⟩
/-- a pair of a name and a list of rules, the list apart from L -/
def NrL (L : List Addr) (H : Hp) (v : V) (e : Str × List RuleD) : Prop := ∃ t q xs, v = .ref t ∧ H t = some (.tup [.str e.1, .ref q]) ∧ q ∉ L ∧ H q = some (.lst xs) ∧ Rus H xs e.2
theorem NrL.kp {H H' : Hp} {L L' : List Addr} {v : V} {e : Str × List RuleD} (k : Kp L' H H') (tk : Tk H H') (n : ∀ q, q ∉ L → q ∉ L') (h : NrL L H v e) : NrL L H' v e := by
  obtain ⟨t, q, xs, rfl, h1, h2, h3, h4⟩ := h
  exact ⟨t, q, xs, rfl, tk _ _ h1, h2, k _ _ h3 (n q h2), h4.tk tk⟩
theorem NrL.at {H : Hp} {L : List Addr} {v : V} {e : Str × List RuleD} (h : NrL L H v e) : NrAt H v e := let ⟨t, q, xs, e, h1, _, h3, h4⟩ := h; ⟨t, q, xs, e, h1, h3, h4⟩
theorem lookS_put {sh : Shf} {n : Str} {rs us : List RuleD} (h : lookS sh n = some us) : lookS (putS sh n rs) n = some rs := by
  have : (sh.any fun e => decide (e.1 = n)) = true := by
    unfold lookS at h
    cases e : sh.find? (fun e => decide (e.1 = n)) with
    | none => rw [e] at h; cases h
    | some x =>
      exact List.any_eq_true.mpr ⟨x, List.mem_of_find?_eq_some e, (List.find?_eq_some_iff_append.mp e).1⟩
  unfold putS
  rw [if_pos this]
  clear h
  induction sh with
  | nil => cases this
  | cons a r ih =>
    rw [List.map_cons]
    unfold lookS
    by_cases z : a.1 = n
    · rw [if_pos z, List.find?_cons, decide_eq_true z]
      rfl
    · rw [if_neg z, List.find?_cons, decide_eq_false z]
      rw [List.any_cons, decide_eq_false z, Bool.false_or] at this
      have := ih this
      unfold lookS at this
      exact this
/-- what is wanted of a lay: all are rules, or one is none -/
inductive LayW (H : Hp) (due : V) (a : Nat) (rs : List RuleD) (ds : List PyData) : Prop
  | rules (e : ds = rs.map RuleD.told) (w : ∃ t, due = .ref t ∧ H t = some (.tup [.str (if 24 < rs.length ∨ 24 < a + rs.length then "many" else "ok"), .non]))
  | bad (i : Nat) (d : PyData) (hi : i ≤ rs.length) (e : ds = (rs.map RuleD.told).take i ++ [d] ++ (rs.map RuleD.told).drop i ++ [.none]) (nd : asRule d = none) (w : ∃ t, due = .ref t ∧ H t = some (.tup [.str "no rule", .int (i : Nat)]))
theorem LayW.same {H H' : Hp} {due : V} {a : Nat} {rs : List RuleD} {ds : List PyData} (s : Same H H') (h : LayW H due a rs ds) : LayW H' due a rs ds := by
  cases h with
  | rules e w => obtain ⟨t, e1, e2⟩ := w; exact .rules e ⟨t, e1, s _ _ e2⟩
  | bad i d hi e nd w => obtain ⟨t, e1, e2⟩ := w; exact .bad i d hi e nd ⟨t, e1, s _ _ e2⟩
theorem allR_none {ds : List PyData} {ps : List RuleD} {d : PyData} (h : AllR ds ps) (m : d ∈ ds) (e : asRule d = none) : False := by
  have : asRule d ∈ ds.map asRule := List.mem_map_of_mem m
  rw [show ds.map asRule = ps.map some from h, e] at this
  obtain ⟨r, -, z⟩ := List.mem_map.mp this
  cases z
theorem told_get {rs : List RuleD} {i : Nat} {d : PyData} (g : ∀ r ∈ rs, RuleD.good r) (h : (rs.map RuleD.told)[i]? = some d) (nd : asRule d = none) : False := by
  rw [List.getElem?_map] at h
  obtain ⟨r, hr, rfl⟩ := Option.map_eq_some_iff.mp h
  rw [asRule_told (g r (List.mem_of_getElem? hr))] at nd
  cases nd
/-- where a thing is none, that was wanted -/
theorem LayW.none {H : Hp} {due : V} {a i : Nat} {rs ps : List RuleD} {ds : List PyData} {d : PyData} (h : LayW H due a rs ds) (g : ∀ r ∈ rs, RuleD.good r) (hi : ds[i]? = some d) (nd : asRule d = none) (hp : AllR (ds.take i) ps) : ∃ t, due = .ref t ∧ H t = some (.tup [.str "no rule", .int (i : Nat)]) := by
  cases h with
  | rules e w =>
    rw [e] at hi
    exact (told_get g hi nd).elim
  | bad i' d' hi' e nd' w =>
    have lt : ((rs.map RuleD.told).take i').length = i' := by rw [List.length_take, List.length_map]; omega
    have : i = i' := by
      rcases Nat.lt_trichotomy i i' with z | z | z
      · rw [e, List.append_assoc, List.append_assoc, List.getElem?_append_left (by omega), List.getElem?_take, if_pos z] at hi
        exact (told_get g hi nd).elim
      · exact z
      · refine (allR_none hp (d := d') ?_ nd').elim
        have h1 : ds[i']? = some d' := by
          rw [e, List.append_assoc, List.append_assoc, List.getElem?_append_right (by omega), lt, Nat.sub_self]
          rfl
        have h2 : (ds.take i)[i']? = some d' := by rw [List.getElem?_take, if_pos z, h1]
        exact List.mem_of_getElem? h2
    rw [this]
    exact w
theorem LayW.all {H : Hp} {due : V} {a : Nat} {rs ps : List RuleD} {ds : List PyData} (h : LayW H due a rs ds) (g : ∀ r ∈ rs, RuleD.good r) (hp : AllR ds ps) : ps = rs ∧ ds = rs.map RuleD.told ∧ ∃ t, due = .ref t ∧ H t = some (.tup [.str (if 24 < rs.length ∨ 24 < a + rs.length then "many" else "ok"), .non]) := by
  cases h with
  | rules e w =>
    rw [e] at hp
    exact ⟨allR_inj hp (allR_of g), e, w⟩
  | bad i d hi e nd w =>
    rw [e] at hp
    exact (allR_none hp (d := d) (by simp) nd).elim
theorem sh_rulesN {rs : List RuleD} (g : ∀ r ∈ rs, RuleD.good r) : Sh 3 (.list (rs.map RuleD.told)) := sh_lst fun d hd => by
  obtain ⟨r, hr, rfl⟩ := List.mem_map.mp hd
  exact sh_rule (g r hr)
theorem kpM {t : Addr} {M : List Addr} {H H' : Hp} (k : Kp [t, t] H H') : Kp (t :: M) H H' := fun b o e n => k b o e fun z => n (by simp at z; simp [z])
theorem Tape.kp' {t : Addr} {M : List Addr} {H H' : Hp} (T : Tape H t t t) (k : Kp M H H') (n : t ∉ M) : Tape H' t t t := by
  obtain ⟨e1, e2, x, y, h, r⟩ := T
  exact ⟨e1, e2, x, y, k _ _ h n, r⟩
theorem fr_kp7 {t x : Addr} {H H' : Hp} (f : Fr H' x) (k : Kp [t, t] H H') (T : Tape H' t t t) : Fr H x := fr_kp f k (ni_tape f T)
def sp_Llaid_right (K : PySem.W.Frag) : Sp := Sp3 fun x v z H Q E => CIn K ∧ ∃ t M W m sh p xs, x = .ref t ∧ Tape H t t t ∧ InnAt K H M W v m sh [] ∧ t ∉ M ++ W ∧ z = .ref p ∧ p ∉ t :: M ∧ H p = some (.lst xs) ∧ Paired (NrL (t :: M) H) xs sh ∧ 1 ≤ sh.length ∧
  ∀ H' M' W', Tape H' t t t → Kp (t :: M) H H' → InnAt K H' M' W' v m sh [] → ((∀ x ∈ M', x ∈ M ∨ Fr H x) ∧ ∀ x ∈ W', x ∈ W ∨ Fr H x) → Q (.bl true) H'
theorem g_Llaid_right {K : PySem.W.Frag} {t p : Addr} {M W : List Addr} {v : V} {m : Int} {sh : Shf} {xs : List V} {H : Hp} {Q : VK} {E : XK} (c : CIn K) (T : Tape H t t t) (I : InnAt K H M W v m sh []) (n : t ∉ M ++ W) (np : p ∉ t :: M) (h : H p = some (.lst xs)) (hp : Paired (NrL (t :: M) H) xs sh) (l : 1 ≤ sh.length)
    (q : ∀ H' M' W', Tape H' t t t → Kp (t :: M) H H' → InnAt K H' M' W' v m sh [] → ((∀ x ∈ M', x ∈ M ∨ Fr H x) ∧ ∀ x ∈ W', x ∈ W ∨ Fr H x) → Q (.bl true) H') : sp_Llaid_right K ([.ref t, v, .ref p] ++ []) H Q E := ⟨_, _, _, rfl, c, t, M, W, m, sh, p, xs, rfl, T, I, n, rfl, np, h, hp, l, q⟩
def t_Llaid_right (K : PySem.W.Frag) : TS :=
  (tSeq (tAsg (tOp (rIxL K) (tVar 2) (tCall (sp_Ltake K) [] E0 (tCons (tVar 0) (tCons (tCB (rLen K) (tCons (tVar 2) tNil)) tNil)))) (gTup K 2 (gCons (gName 3) (gCons (gName 4) gNil))))
  (tSeq (tAsg (tCall (sp_Lsome K) [] E0 (tCons (tVar 0) (tCons (tOp (rIxL K) (tLst (tCons (tC (.int 3)) (tCons (tC (.int 30)) tNil))) (tCall (sp_Ltake K) [] E0 (tCons (tVar 0) (tCons (tC (.int 2)) tNil)))) tNil))) (gName 5))
  (tSeq (tAsg (tTup (tCons (tC (.str "ok")) (tCons (tC .non) tNil))) (gName 6))
  (tSeq (tIfS (tOr (tTest (tOp rGt (tCB (rLen K) (tCons (tVar 5) tNil)) (tC (.int 24)))) (tTest (tOp rGt (tOp rAdd (tCB (rLen K) (tCons (tVar 4) tNil)) (tCB (rLen K) (tCons (tVar 5) tNil))) (tC (.int 24)))))
  (tAsg (tTup (tCons (tC (.str "many")) (tCons (tC .non) tNil))) (gName 6))
  tNext)
  (tSeq (tIfS (tTest (tOp rEq (tCall (sp_Ltake K) [] E0 (tCons (tVar 0) (tCons (tC (.int 3)) tNil))) (tC (.int 0))))
  (tSeq (tAsg (tCall (sp_Ltake K) [] E0 (tCons (tVar 0) (tCons (tOp rAdd (tCB (rLen K) (tCons (tVar 5) tNil)) (tC (.int 1))) tNil))) (gName 7))
  (tSeq (tDrop (tBM K "list" rInsert (tVar 5) (tCons (tVar 7) (tCons (tOp (rIxL K) (tLst (tCons (tTup (tCons (tC (.str "price")) (tCons (tC (.int 5)) (tCons (tC (.int 4)) (tCons (tC (.int 1)) tNil))))) (tCons (tC .non) (tCons (tTup (tCons (tC (.str "go")) (tCons (tC (.int 1)) (tCons (tC (.int 2)) (tCons (tC (.int 1)) tNil))))) (tCons (tLst (tCons (tC (.str "fee")) (tCons (tC (.int 1)) (tCons (tC (.int 2)) (tCons (tC (.int 1)) tNil))))) (tCons (tTup tNil) tNil)))))) (tCall (sp_Ltake K) [] E0 (tCons (tVar 0) (tCons (tC (.int 5)) tNil)))) tNil))))
  (tSeq (tDrop (tBM K "list" rAppend (tVar 5) (tCons (tC .non) tNil)))
  (tAsg (tTup (tCons (tC (.str "no rule")) (tCons (tVar 7) tNil))) (gName 6)))))
  tNext)
  (tSeq (tAsg (tCall (sp_Ldone K) [] E0 (tCons (tVar 1) (tCons (tTup (tCons (tC (.str "lay")) (tCons (tVar 3) (tCons (tVar 5) tNil)))) tNil))) (gName 8))
  (tSeq (tIfS (tOr (tTest (tOp (rNeD K) (tVar 8) (tVar 6))) (tB (tCB (rIsi K) (tCons (tOp (rIxT K) (tVar 8) (tC (.int 1))) (tCons (tC (.ty "bool")) tNil)))))
  (tRet (tC (.bl false)))
  tNext)
  (tSeq (tIfS (tTest (tOp rNe (tOp (rIxT K) (tVar 6) (tC (.int 0))) (tC (.str "ok"))))
  (tRet (tOp (rEqD K) (tMeth (He.ga K "Inn") "rules_of" (sp_Inn_rules_of K) [] E0 (tVar 1) (tCons (tVar 3) tNil)) (tVar 4)))
  tNext)
  (tSeq (tAsg (tCB (rListOf K) (tCons (tVar 5) tNil)) (gName 9))
  (tSeq (tDrop (tBM K "list" rAppend (tVar 5) (tCons (tC .non) tNil)))
  (tRet (tAndV (tOp (rEqD K) (tMeth (He.ga K "Inn") "rules_of" (sp_Inn_rules_of K) [] E0 (tVar 1) (tCons (tVar 3) tNil)) (tOp rCat (tVar 4) (tVar 9))) (tOp (rEqD K) (tCall (sp_Ldone K) [] E0 (tCons (tVar 1) (tCons (tTup (tCons (tC (.str "undo")) tNil)) tNil))) (tTup (tCons (tC (.str "ok")) (tCons (tC .non) tNil))))))))))))))))
theorem pure_Llaid_right {K : PySem.W.Frag} {x y z : V} {H : Hp} {Q : VK} {E : XK} (h : sp_Llaid_right K [x, y, z] H Q E) : t_Llaid_right K { nx := fun _ H' => Q .non H', rt := Q } ([some x, some y, some z] ++ List.replicate 7 none) H := by
  obtain ⟨x, y, z, e, ⟨ci, c, cb, cs⟩, t, M, W, m, sh, p, xs, rfl, T, J, nt, rfl, np, h, hp, l1, q⟩ := h
  cases e
  dsimp only [List.replicate, List.append, List.cons_append, List.nil_append]
  unfold t_Llaid_right
  have ntM : t ∉ M := fun z => nt (List.mem_append_left _ z)
  have ntp : p ∉ [t, t] := fun z => np (by simp at z; simp [z])
  have xl := Paired.length hp
  have few := J.ok'.few
  have ndS := J.ok'.nd
  walk_at "ss"
  rename_i j H1 j0 j1 T1 k1 x hx
  have tk1 : Tk H H1 := tk_kp T k1
  obtain ⟨j', hj'⟩ := List.getElem?_of_mem hx
  obtain ⟨⟨n, os⟩, he, ha⟩ := Paired.getL hp hj'
  have he := List.mem_of_getElem? he
  have lk := lookS_of ndS he
  have lo : os.length ≤ 24 := J.ok'.len _ he
  have go : ∀ r ∈ os, RuleD.good r := J.ok'.good _ he
  obtain ⟨tt, q', ys, rfl, ht, nq, hq, hR⟩ := ha
  dsimp only at ht hR
  have nq' : q' ∉ [t, t] := fun z => nq (by simp at z; simp [z])
  have ht := tk1 _ _ ht
  have hq := k1 _ _ hq nq'
  have hR := hR.tk tk1
  have Jk : ∀ {G}, Kp [t, t] H G → InnAt K G M W y m sh [] := fun k => J.keep k (muts_tape T) fun x hx z => by
    simp at z
    exact nt (z ▸ hx)
  walk_at "ss"
  rename_i pl hpl d H2 d0 d1 T2 k2 x hx2
  have k12 : Kp [t, t] H H2 := k1.trans (kp_tr k2 (Same.kp (same_new hpl) _))
  have hq2 : H2 q' = some (.lst ys) := k2 _ _ (at_new hpl hq) nq'
  have hR2 : Rus H2 ys os := (hR.tk (tk_new hpl)).tk (tk_kp (tape_new hpl T1) k2)
  have mm0 : 0 ≤ x := by omega
  have mm1 : x ≤ 30 := by omega
  walk_at "ss"
  refine g_Lsome T2 mm0 mm1 fun p5 us rs H3 T3 k3 f3 h3 r3 l3 g3 => ?_
  have k13 := k12.trans k3
  have hq3 := k3 _ _ hq2 nq'
  have hR3 := ru_kp k3 T2 hR2
  have yl := ru_len hR3
  have ul := ru_len r3
  have n3 : p5 ∉ [t, t] := ni_tape f3 T2
  have f5 : Fr H p5 := fr_kp f3 k12 n3
  have n35 : q' ≠ p5 := ne_of_none hq2 f3
  clear hx hx2 k1 k2 k3 k12 hq hq2 hR hR2 T1 T2 hpl ht f3 tk1 hj'
  walk_at "ss"
  rename_i u0 hu0
  have T4 := tape_new (o := .tup [.str "ok", .non]) hu0 T3
  have k14 := kp_new (o := .tup [.str "ok", .non]) hu0 k13
  have hq4 := at_new (u := .tup [.str "ok", .non]) hu0 hq3
  have h4 := at_new (u := .tup [.str "ok", .non]) hu0 h3
  have r4 := ru_new (o := .tup [.str "ok", .non]) hu0 r3
  have hR4 := ru_new (o := .tup [.str "ok", .non]) hu0 hR3
  have u4 : (upd H3 u0 (.tup [.str "ok", .non])) u0 = some (.tup [.str "ok", .non]) := upd_same
  generalize upd H3 u0 (.tup [.str "ok", .non]) = H4 at T4 k14 hq4 h4 r4 hR4 u4 ⊢
  clear T3 k13 hq3 h3 r3 hR3 hu0
  with_reducible refine jn (P := fun σ H' => ∃ u, σ = [some (.ref t), some y, some (.ref p), some (.str n), some (.ref q'), some (.ref p5), some (.ref u), none, none, none] ∧ Tape H' t t t ∧ Kp [t, t] H H' ∧ H' q' = some (.lst ys) ∧ H' p5 = some (.lst us) ∧ Rus H' us rs ∧ Rus H' ys os ∧ H' u = some (.tup [.str (if 24 < rs.length ∨ 24 < os.length + rs.length then "many" else "ok"), .non])) ?_ fun N hN => ?_
  · clear T4 k14 hq4 h4 r4 hR4 u4
    rintro σ H5 ⟨u, rfl, T5, k5, hq5, h5, r5, hR5, u5⟩
    with_reducible refine jn (P := fun σ H' => ∃ u v7 xs' ds, σ = [some (.ref t), some y, some (.ref p), some (.str n), some (.ref q'), some (.ref p5), some (.ref u), v7, none, none] ∧ Tape H' t t t ∧ Kp [t, t] H H' ∧ H' q' = some (.lst ys) ∧ H' p5 = some (.lst xs') ∧ xs'.length ≤ 60 ∧ Paired (At H' []) xs' ds ∧ (ds = rs.map RuleD.told → xs' = us) ∧ Rus H' us rs ∧ Rus H' ys os ∧ LayW H' (.ref u) os.length rs ds) ?_ fun N hN => ?_
    · clear T5 k5 hq5 h5 r5 hR5 u5
      rintro σ H6 ⟨u, v7, xs', ds, rfl, T6, k6, hq6, h6, xl6, P6, e6, r6, hR6, w6⟩
      have J6 := Jk k6
      walk_at "ss"
      rename_i t9 ht9
      have J7 := J6.same (same_new (o := .tup [.str "lay", .str n, .ref p5]) ht9)
      have h7 := at_new (u := .tup [.str "lay", .str n, .ref p5]) ht9 h6
      have q7 := at_new (u := .tup [.str "lay", .str n, .ref p5]) ht9 hq6
      have r7 := ru_new (o := .tup [.str "lay", .str n, .ref p5]) ht9 r6
      have R7 := ru_new (o := .tup [.str "lay", .str n, .ref p5]) ht9 hR6
      have T7 := tape_new (o := .tup [.str "lay", .str n, .ref p5]) ht9 T6
      have k7 := kp_new (o := .tup [.str "lay", .str n, .ref p5]) ht9 k6
      have P7 : Paired (At (upd H6 t9 (.tup [.str "lay", .str n, .ref p5])) []) xs' ds := Paired.mapP P6 fun _ _ a => a.same (same_new ht9)
      have w7 := w6.same (same_new (o := .tup [.str "lay", .str n, .ref p5]) ht9)
      have t7 : (upd H6 t9 (.tup [.str "lay", .str n, .ref p5])) t9 = some (.tup [.str "lay", .str n, .ref p5]) := upd_same
      generalize upd H6 t9 (.tup [.str "lay", .str n, .ref p5]) = H7 at J7 h7 q7 r7 R7 T7 k7 P7 w7 t7 ⊢
      clear J6 h6 hq6 r6 hR6 T6 k6 P6 w6 ht9
      have pl7 := Paired.length P7
      have aR := allR_of g3
      refine g_Ldone ci c cb cs J7 (Nat.zero_le _) (.lay n p5 xs' ds t7 h7 P7 (by omega) (fun e => by rw [lk] at e; cases e) (fun os' i d e hi nd ⟨ps, hps⟩ y9 H9 s9 R9 => ?_) (fun os' ps e ha hl y9 H9 s9 R9 => ?_) fun os' ps e ha hl y9 H9 M9 W9 k9 J9 m9 R9 => ?_)
      · rw [lk] at e
        cases e
        obtain ⟨u', e1, e2⟩ := w7.none g3 hi nd hps
        cases e1
        obtain ⟨t9, x9, rfl, h9, a9, -⟩ := R9
        cases a9
        walk_at "ss"
        have e9 := s9 _ _ e2
        refine g_neD_same (d := .tuple [.str "no rule", .int (i : Nat)]) (n := 1) (.tup (SqT.of h9) (.cons (.str _) (.cons (.int _) .nil))) (.tup (SqT.of e9) (.cons (.str _) (.cons (.int _) .nil))) (sh_tup fun d hd => ?_) (by decide) ?_
        · simp only [List.mem_cons, List.not_mem_nil, or_false] at hd
          rcases hd with rfl | rfl
          · exact sh_str (by decide +kernel) _
          · exact sh_int _ _
        walk_at "ss"
        refine ite_t (by decide) ?_
        walk_at "ss"
        refine g_irobj (J7.same s9) (by decide) ?_
        walk_at "ss"
        refine g_irules ci c cb (J7.same s9) lk fun pz Ha ya sa fa ha' ra => ?_
        walk_at "ss"
        refine g_eqD_same (dp_row (SqL.of ha') ra) (dp_row (SqL.of (sa _ _ (s9 _ _ q7))) (ru_same sa (ru_same s9 R7))) (sh_rulesN go) (by decide) ?_
        exact q Ha M W (tape_same sa (tape_same s9 T7)) (kp_wide (kpM k7) (Same.kp (s9.trans sa) []) (by simp)) ((J7.same s9).same sa) ⟨fun x hx => .inl hx, fun x hx => .inl hx⟩
      · rw [lk] at e
        cases e
        obtain ⟨rfl, -, u', e1, e2⟩ := w7.all g3 ha
        cases e1
        rw [if_pos hl] at e2
        obtain ⟨t9, rfl, h9⟩ := R9.no
        walk_at "ss"
        have e9 := s9 _ _ e2
        refine g_neD_same (d := noD "many") (NoAt.dp ⟨_, rfl, h9⟩) (NoAt.dp ⟨_, rfl, e9⟩) (sh_no (by decide +kernel)) (by decide) ?_
        walk_at "ss"
        refine ite_t (by decide) ?_
        walk_at "ss"
        refine g_irobj (J7.same s9) (by decide) ?_
        walk_at "ss"
        refine g_irules ci c cb (J7.same s9) lk fun pz Ha ya sa fa ha' ra => ?_
        walk_at "ss"
        refine g_eqD_same (dp_row (SqL.of ha') ra) (dp_row (SqL.of (sa _ _ (s9 _ _ q7))) (ru_same sa (ru_same s9 R7))) (sh_rulesN go) (by decide) ?_
        exact q Ha M W (tape_same sa (tape_same s9 T7)) (kp_wide (kpM k7) (Same.kp (s9.trans sa) []) (by simp)) ((J7.same s9).same sa) ⟨fun x hx => .inl hx, fun x hx => .inl hx⟩
      · rw [lk] at e
        cases e
        obtain ⟨rfl, ed, u', e1, e2⟩ := w7.all g3 ha
        cases e1
        rw [if_neg (by omega)] at e2
        obtain ⟨t9, rfl, h9⟩ := R9.no
        have nuM : u ∉ M := fun z => mut_tup (J7.muts u z _ e2)
        have e9 := k9 _ _ e2 nuM
        walk_at "ss"
        refine g_neD_same (d := noD "ok") (NoAt.dp ⟨_, rfl, h9⟩) (NoAt.dp ⟨_, rfl, e9⟩) (sh_no (by decide +kernel)) (by decide) ?_
        walk_at "ss"
        refine ite_f (by decide) ?_
        have ex := e6 ed
        subst ex
        have fM : ∀ x ∈ M ++ W, ¬ Fr H x := fun x hx f => by
          obtain ⟨o, e⟩ := J.known x hx
          rw [show H x = none from f] at e
          cases e
        have n5M : p5 ∉ M := fun z => fM _ (List.mem_append_left _ z) f5
        have n59 : p5 ∉ M9 ++ W9 := fun z => by
          have z : p5 ∈ M ++ W ∨ Fr H7 p5 := (List.mem_append.mp z).elim (fun z => (m9.1 _ z).imp (List.mem_append_left _) id) fun z => (m9.2 _ z).imp (List.mem_append_right _) id
          rcases z with z | z
          · exact fM _ z f5
          · rw [show H7 p5 = none from z] at h7
            cases h7
        have nq9 : q' ∉ M := fun z => nq (by simp [z])
        have h9' := k9 _ _ h7 n5M
        have q9 := k9 _ _ q7 nq9
        have tk9 := tk_mut k9 J7.muts
        have r9 := r7.tk tk9
        have R9' := R7.tk tk9
        have T9 : Tape H9 t t t := T7.kp' k9 ntM
        have k09 : Kp (t :: M) H H9 := kp_wide (kpM k7) k9 fun x hx => .inl (by simp [hx])
        have m9' : (∀ x ∈ M9, x ∈ M ∨ Fr H x) ∧ ∀ x ∈ W9, x ∈ W ∨ Fr H x := ⟨fun x hx => (m9.1 x hx).imp id fun f => fr_kp7 f k7 T7, fun x hx => (m9.2 x hx).imp id fun f => fr_kp7 f k7 T7⟩
        walk_at "ss"
        rename_i pk hpk
        obtain ⟨G, eG⟩ : ∃ G, G = upd (upd H9 pk (.lst xs')) p5 (.lst (xs' ++ [.non])) := ⟨_, rfl⟩
        have kG : Kp [p5] H9 G := fun b o e n => by
          rw [eG]
          exact at_ne (fun z => n (by simp [z])) (at_new hpk e)
        have npk : pk ≠ p5 := (ne_of_none h9' hpk).symm
        have gk : G pk = some (.lst xs') := by rw [eG]; exact at_ne npk upd_same
        have JG := J9.keep kG (muts_one h9') fun x hx z => n59 (by rw [List.mem_singleton.mp z] at hx; exact hx)
        have TG : Tape G t t t := T9.kp' kG fun z => n3 (by rw [List.mem_singleton.mp z]; simp)
        have kHG : Kp (t :: M) H G := kp_wide k09 kG fun x hx => .inr (by rw [List.mem_singleton.mp hx]; exact f5)
        have qG := kG _ _ q9 (by simp [n35])
        have tkG := tk_mut kG (muts_one h9')
        have rG := r9.tk tkG
        have RG := R9'.tk tkG
        rw [← eG]
        clear eG hpk kG tkG q9 h9' r9 R9' T9 k09 J9 k9 tk9
        refine g_irobj JG (by decide) ?_
        walk_at "ss"
        refine g_irules ci c cb JG (lookS_put lk) fun pz Ha ya sa fa ha' ra => ?_
        walk_at "ss"
        rename_i lc hlc
        have sc : Same G (upd Ha lc (.lst (ys ++ xs'))) := sm_new hlc sa
        refine g_eqD_same (dp_row (SqL.of (at_new hlc ha')) (ru_new hlc ra)) (dp_row (SqL.of upd_same) (Paired.app (ru_same sc RG) (ru_same sc rG))) (sh_rulesN fun r hr => ?_) (by decide) ?_
        · rcases List.mem_append.mp hr with hr | hr
          · exact go r hr
          · exact g3 r hr
        have JC := JG.same sc
        have TC := tape_same sc TG
        have kHC := kHG.trans (Same.kp sc _)
        generalize upd Ha lc (.lst (ys ++ xs')) = HC at JC TC kHC ⊢
        clear sc ra ha' fa sa RG rG qG TG JG gk kHG hlc
        walk_at "ss"
        rename_i tu htu
        have JU := JC.same (same_new (o := .tup [.str "undo"]) htu)
        have kHU := kp_new (o := .tup [.str "undo"]) htu kHC
        have TU := tape_new (o := .tup [.str "undo"]) htu TC
        refine g_Ldone ci c cb cs JU (Nat.le_succ_of_le (show 1 ≤ 999 by decide)) (.undo upd_same (fun e => absurd (congrArg List.length e) (by simp)) fun pa' sh' e r HU MU kU JV mU RV => ?_)
        have e' : pa' = [] ∧ sh = sh' := by
          cases pa' with
          | nil => exact ⟨rfl, by simpa using e⟩
          | cons a l => exact absurd (congrArg List.length e) (by simp)
        obtain ⟨rfl, rfl⟩ := e'
        obtain ⟨tv, rfl, hv⟩ := RV.no
        have nt9 : t ∉ M9 := fun z => by
          rcases m9'.1 t z with z | z
          · exact ntM z
          · obtain ⟨⟨_, e⟩, -⟩ := tape_lst T
            rw [show H t = none from z] at e
            cases e
        have TV := TU.kp' kU nt9
        have kHV : Kp (t :: M) H HU := kp_wide kHU kU fun x hx => by
          rcases m9'.1 x hx with z | z
          · exact .inl (List.mem_cons_of_mem _ z)
          · exact .inr z
        walk_at "ss"
        rename_i te hte
        refine g_eqD_same (d := noD "ok") (NoAt.dp ⟨_, rfl, at_new hte hv⟩) (NoAt.dp ⟨_, rfl, upd_same⟩) (sh_no (by decide +kernel)) (by decide) ?_
        refine q _ MU W9 (tape_new hte TV) (kp_new hte kHV) (JV.same (same_new hte)) ⟨fun x hx => m9'.1 x (mU x hx), m9'.2⟩
    · walk_at "ss"
      rename_i d3 H6 d30 d31 T6 k6
      have q6 := k6 _ _ hq5 nq'
      have k06 := k5.trans k6
      have h6 := k6 _ _ h5 n3
      have r6 := ru_kp k6 T5 r5
      have R6 := ru_kp k6 T5 hR5
      have u6 : H6 u = _ := tk_kp T5 k6 _ _ u5
      clear k6 T5 k5 hq5 h5 r5 hR5 u5
      refine ite_d (fun z => ?_) fun z => ?_
      · walk_at "ss"
        rename_i bi H7 b0 b1 T7 k7 c1 hc1 c2 hc2 c3 hc3 c4 hc4 c5 hc5 d5 H8 d50 d51 T8 k8 xv hxv
        have h7 := k7 _ _ h6 n3
        obtain ⟨⟨tl7, ht7⟩, -⟩ := tape_lst T7
        have ni : ∀ {G : Hp} {a : Addr}, Fr G a → Same H7 G → a ∉ [t, p5] := by
          intro G a f s z
          simp only [List.mem_cons, List.not_mem_nil, or_false] at z
          rcases z with z | z
          · have := s _ _ ht7
            rw [← z, show G a = none from f] at this
            cases this
          · have := s _ _ h7
            rw [← z, show G a = none from f] at this
            cases this
        have m1 := same_new (o := .tup [.str "price", .int 5, .int 4, .int 1]) hc1
        have m2 := sm_new (o := .tup [.str "go", .int 1, .int 2, .int 1]) hc2 m1
        have m3 := sm_new (o := .lst [.str "fee", .int 1, .int 2, .int 1]) hc3 m2
        have m4 := sm_new (o := .tup []) hc4 m3
        have m5 := sm_new (o := .lst [.ref c1, .non, .ref c2, .ref c3, .ref c4]) hc5 m4
        have k68 : Kp [t, t] H6 H8 := k7.trans (kp_tr k8 (Same.kp m5 _))
        have k58 : Kp [t, p5] (upd (upd (upd (upd (upd H7 c1 (.tup [.str "price", .int 5, .int 4, .int 1])) c2 (.tup [.str "go", .int 1, .int 2, .int 1])) c3 (.lst [.str "fee", .int 1, .int 2, .int 1])) c4 (.tup [])) c5 (.lst [.ref c1, .non, .ref c2, .ref c3, .ref c4])) H8 := fun b o e n => k8 b o e (fun z => n (by simp at z; simp [z]))
        obtain ⟨d, aD, nD⟩ : ∃ d, At H8 [t, p5] xv d ∧ asRule d = none := by
          simp only [List.mem_cons, List.not_mem_nil, or_false] at hxv
          rcases hxv with rfl | rfl | rfl | rfl | rfl
          · exact ⟨.tuple [.str "price", .int 5, .int 4, .int 1], At.kp k58 (.tup (ni hc1 (Same.refl _)) (at_new hc5 (at_new hc4 (at_new hc3 (at_new hc2 upd_same)))) (.cons (.str _) (.cons (.int _) (.cons (.int _) (.cons (.int _) .nil))))), by decide +kernel⟩
          · exact ⟨.none, .non, rfl⟩
          · exact ⟨.tuple [.str "go", .int 1, .int 2, .int 1], At.kp k58 (.tup (ni hc2 m1) (at_new hc5 (at_new hc4 (at_new hc3 upd_same))) (.cons (.str _) (.cons (.int _) (.cons (.int _) (.cons (.int _) .nil))))), by decide +kernel⟩
          · exact ⟨.list [.str "fee", .int 1, .int 2, .int 1], At.kp k58 (.lst (ni hc3 m2) (at_new hc5 (at_new hc4 upd_same)) (.cons (.str _) (.cons (.int _) (.cons (.int _) (.cons (.int _) .nil))))), rfl⟩
          · exact ⟨.tuple [], At.kp k58 (.tup (ni hc4 m3) (at_new hc5 upd_same) .nil), rfl⟩
        have h8 := k68 _ _ h6 n3
        have q8 := k68 _ _ q6 nq'
        have r8 := ru_kp k68 T6 r6
        have R8 := ru_kp k68 T6 R6
        have k08 := k06.trans k68
        clear k58 k68 m1 m2 m3 m4 m5 ni ht7 h7 hc1 hc2 hc3 hc4 hc5 k7 k8 T7 T6 k06 h6 q6 r6 R6 hxv u6
        refine g_insV h8 (by omega) b0 (by omega) ?_
        walk_at "ss"
        rename_i u9 hu9
        have np5 : ∀ {b : Addr} {o : HO}, H8 b = some o → b ≠ p5 → (upd (upd (upd H8 p5 (.lst (us.take bi.toNat ++ [xv] ++ us.drop bi.toNat))) p5 (.lst (us.take bi.toNat ++ [xv] ++ us.drop bi.toNat ++ [.non]))) u9 (.tup [.str "no rule", .int bi])) b = some o := fun e ne => at_new hu9 (at_ne ne (at_ne ne e))
        have kF : Kp [t, p5] H8 (upd (upd (upd H8 p5 (.lst (us.take bi.toNat ++ [xv] ++ us.drop bi.toNat))) p5 (.lst (us.take bi.toNat ++ [xv] ++ us.drop bi.toNat ++ [.non]))) u9 (.tup [.str "no rule", .int bi])) := fun b o e n => np5 e fun z => n (by simp [z])
        have tkF : Tk H8 (upd (upd (upd H8 p5 (.lst (us.take bi.toNat ++ [xv] ++ us.drop bi.toNat))) p5 (.lst (us.take bi.toNat ++ [xv] ++ us.drop bi.toNat ++ [.non]))) u9 (.tup [.str "no rule", .int bi])) := fun b zs e => np5 e fun z => by
          rw [z, h8] at e
          cases e
        have hF : (upd (upd (upd H8 p5 (.lst (us.take bi.toNat ++ [xv] ++ us.drop bi.toNat))) p5 (.lst (us.take bi.toNat ++ [xv] ++ us.drop bi.toNat ++ [.non]))) u9 (.tup [.str "no rule", .int bi])) p5 = some (.lst (us.take bi.toNat ++ [xv] ++ us.drop bi.toNat ++ [.non])) := at_new hu9 upd_same
        have TF : Tape (upd (upd (upd H8 p5 (.lst (us.take bi.toNat ++ [xv] ++ us.drop bi.toNat))) p5 (.lst (us.take bi.toNat ++ [xv] ++ us.drop bi.toNat ++ [.non]))) u9 (.tup [.str "no rule", .int bi])) t t t := tape_new hu9 (tape_own f5 T (tape_own f5 T T8))
        have kH := kp_new (o := .tup [.str "no rule", .int bi]) hu9 (kp_own (o := .lst (us.take bi.toNat ++ [xv] ++ us.drop bi.toNat ++ [.non])) f5 (kp_own (o := .lst (us.take bi.toNat ++ [xv] ++ us.drop bi.toNat)) f5 k08))
        have qF := np5 q8 n35
        have aF : At _ [] xv d := (At.kp kF aD).nil
        have rF := ats_rus (r8.tk tkF)
        have uF : (upd (upd (upd H8 p5 (.lst (us.take bi.toNat ++ [xv] ++ us.drop bi.toNat))) p5 (.lst (us.take bi.toNat ++ [xv] ++ us.drop bi.toNat ++ [.non]))) u9 (.tup [.str "no rule", .int bi])) u9 = some (.tup [.str "no rule", .int bi]) := upd_same
        have rT := r8.tk tkF
        have RT := R8.tk tkF
        generalize upd (upd (upd H8 p5 (.lst (us.take bi.toNat ++ [xv] ++ us.drop bi.toNat))) p5 (.lst (us.take bi.toNat ++ [xv] ++ us.drop bi.toNat ++ [.non]))) u9 (.tup [.str "no rule", .int bi]) = HF at kF tkF hF TF kH qF aF rF uF rT RT ⊢
        have eb : ((bi.toNat : Nat) : Int) = bi := by omega
        refine hN _ _ ⟨u9, some (.int bi), us.take bi.toNat ++ [xv] ++ us.drop bi.toNat ++ [.non], (rs.map RuleD.told).take bi.toNat ++ [d] ++ (rs.map RuleD.told).drop bi.toNat ++ [.none], rfl, TF, kH, qF, hF, ?_, ?_, fun e => ?_, rT, RT, .bad bi.toNat d (by omega) rfl nD ⟨u9, rfl, by rw [eb]; exact uF⟩⟩
        · simp only [List.length_append, List.length_take, List.length_drop, List.length_singleton]
          omega
        · exact Paired.app (Paired.app (Paired.app (Paired.take _ rF) (.cons aF .nil)) (Paired.drop _ rF)) (.cons .non .nil)
        · have := congrArg List.length e
          simp only [List.length_append, List.length_take, List.length_drop, List.length_singleton, List.length_map] at this
          omega
      · walk_at "ss"
        exact hN _ _ ⟨u, none, us, rs.map RuleD.told, rfl, T6, k06, q6, h6, by omega, ats_rus r6, fun _ => rfl, r6, R6, .rules rfl ⟨u, rfl, u6⟩⟩
  · walk_at "ss"
    refine ite_d (fun z => ?_) fun z => ?_
    · walk_at "ss"
      rename_i u1 hu1
      exact hN _ _ ⟨u1, rfl, tape_new hu1 T4, kp_new hu1 k14, at_new hu1 hq4, at_new hu1 h4, ru_new hu1 r4, ru_new hu1 hR4, by rw [upd_same, if_pos (.inl (by omega))]⟩
    · walk_at "ss"
      refine ite_d (fun z2 => ?_) fun z2 => ?_
      · walk_at "ss"
        rename_i u1 hu1
        exact hN _ _ ⟨u1, rfl, tape_new hu1 T4, kp_new hu1 k14, at_new hu1 hq4, at_new hu1 h4, ru_new hu1 r4, ru_new hu1 hR4, by rw [upd_same, if_pos (.inr (by omega))]⟩
      · walk_at "ss"
        exact hN _ _ ⟨u0, rfl, T4, k14, hq4, h4, r4, hR4, by rw [u4, if_neg (by omega)]⟩
/-! YNt: inns refused (k81). -/
open PySem PySem.Spec PyProof.Rows L2 TL
/-- what a book made of a list is refused with -/
inductive OneW (ds : List PyData) : Option (Str × PyData) → Prop
  | made (h : madeB ds) : OneW ds none
  | bad (i : Nat) (d : PyData) (h : ds[i]? = some d) (n : asRule d = none) (a : ∃ rs, AllR (ds.take i) rs) : OneW ds (some ("no rule", .int (i : Nat)))
  | many (rs : List RuleD) (a : AllR ds rs) (l : 24 < rs.length) : OneW ds (some ("many", .none))
theorem one_fun {ds : List PyData} {a b : Option (Str × PyData)} (h : OneW ds a) (k : OneW ds b) : a = b := by
  have nb : ∀ {i : Nat} {d : PyData} {rs : List RuleD}, ds[i]? = some d → asRule d = none → AllR ds rs → False := fun h n a => allR_none a (List.mem_of_getElem? h) n
  have lt : ∀ {i j : Nat} {d : PyData} {rs : List RuleD}, ds[i]? = some d → asRule d = none → AllR (ds.take j) rs → i < j → False := fun {i j d rs} h n a l => allR_none a (d := d) (List.mem_of_getElem? (by rw [List.getElem?_take, if_pos l]; exact h)) n
  cases h with
  | made h =>
    obtain ⟨rs, h1, h2⟩ := h
    cases k with
    | made => rfl
    | bad i d e n _ => exact (nb e n h1).elim
    | many us u l => rw [allR_inj h1 u] at h2; omega
  | bad i d e n a =>
    obtain ⟨rs, a⟩ := a
    cases k with
    | made h => obtain ⟨us, h1, -⟩ := h; exact (nb e n h1).elim
    | bad j d' e' n' a' =>
      obtain ⟨us, a'⟩ := a'
      have : i = j := by
        rcases Nat.lt_trichotomy i j with z | z | z
        · exact (lt e n a' z).elim
        · exact z
        · exact (lt e' n' a z).elim
      rw [this]
    | many us u l => exact (nb e n u).elim
  | many rs a l =>
    cases k with
    | made h => obtain ⟨us, h1, h2⟩ := h; rw [allR_inj h1 a] at h2; omega
    | bad j d' e' n' a' => exact (nb e' n' a).elim
    | many us u l => rfl
/-- what an inn made of pairs tells -/
inductive Out (ps : List (Str × List PyData)) : Str × PyData → Prop
  | ok (h : ∀ u ∈ ps, OneW u.2 none) : Out ps ("ok", .none)
  | at (k : Nat) (e : Str × List PyData) (w : Str × PyData) (h : ps[k]? = some e) (b : ∀ u ∈ ps.take k, OneW u.2 none) (o : OneW e.2 (some w)) : Out ps w
theorem out_fun {ps : List (Str × List PyData)} {a b : Str × PyData} (h : Out ps a) (k : Out ps b) : a = b := by
  have nk : ∀ {i : Nat} {e : Str × List PyData} {w : Str × PyData}, ps[i]? = some e → OneW e.2 (some w) → ¬ OneW e.2 none := fun h o z => by cases one_fun o z
  cases h with
  | ok h =>
    cases k with
    | ok => rfl
    | «at» i e w he _ o => exact absurd (h e (List.mem_of_getElem? he)) (nk he o)
  | «at» i e w he b o =>
    cases k with
    | ok h => exact absurd (h e (List.mem_of_getElem? he)) (nk he o)
    | «at» j e' w' he' b' o' =>
      have : i = j := by
        rcases Nat.lt_trichotomy i j with z | z | z
        · exact absurd (b' e (List.mem_of_getElem? (by rw [List.getElem?_take, if_pos z]; exact he))) (nk he o)
        · exact z
        · exact absurd (b e' (List.mem_of_getElem? (by rw [List.getElem?_take, if_pos z]; exact he'))) (nk he' o')
      subst this
      rw [he] at he'
      cases he'
      exact Option.some.inj (one_fun o o')
theorem out_word {ps : List (Str × List PyData)} {w : Str × PyData} (h : Out ps w) : (w.1 = "ok" ∧ w.2 = .none ∧ ∀ u ∈ ps, OneW u.2 none) ∨ (w.1 ≠ "ok" ∧ ∀ e, Out (ps ++ [e]) w) := by
  cases h with
  | ok h => exact .inl ⟨rfl, rfl, h⟩
  | «at» i e w he b o =>
    refine .inr ⟨?_, fun e' => .at i e w ?_ ?_ o⟩
    · cases o with
      | bad => simp; decide
      | many => simp; decide
    · have := (List.getElem?_eq_some_iff.mp he).1
      rw [List.getElem?_append_left this]
      exact he
    · have := (List.getElem?_eq_some_iff.mp he).1
      rw [List.take_append_of_le_length (by omega)]
      exact b
theorem out_next {ps : List (Str × List PyData)} {e : Str × List PyData} {o : Option (Str × PyData)} (h : ∀ u ∈ ps, OneW u.2 none) (w : OneW e.2 o) : Out (ps ++ [e]) (o.getD ("ok", .none)) := by
  cases o with
  | none =>
    refine .ok fun u hu => ?_
    rcases List.mem_append.mp hu with hu | hu
    · exact h u hu
    · rw [List.mem_singleton.mp hu]; exact w
  | some w' =>
    refine .at ps.length e w' (by simp) (fun u hu => ?_) w
    rw [List.take_left'] at hu
    · exact h u hu
    · rfl
def sp_Linn_told (K : PySem.W.Frag) : Sp := Sp2 fun x y H Q E => CIn K ∧ ∃ (m : Int) (p : Addr) (xs : List V) (ps : List (Str × List PyData)), x = .int m ∧ y = .ref p ∧ H p = some (.lst xs) ∧ Paired (NdAt H []) xs ps ∧ (∀ e ∈ ps, e.2.length ≤ 1000) ∧ ps.length ≤ 1000 ∧ ∀ w, Out ps w → ∀ r H', Same H H' → ResAt H' r w.1 w.2 → Q r H'
theorem g_Linn_told {K : PySem.W.Frag} {m : Int} {p : Addr} {xs : List V} {ps : List (Str × List PyData)} {H : Hp} {Q : VK} {E : XK} (c : CIn K) (h : H p = some (.lst xs)) (hN : Paired (NdAt H []) xs ps) (l1 : ∀ e ∈ ps, e.2.length ≤ 1000) (l2 : ps.length ≤ 1000) (q : ∀ w, Out ps w → ∀ r H', Same H H' → ResAt H' r w.1 w.2 → Q r H') : sp_Linn_told K ([.int m, .ref p] ++ []) H Q E := ⟨_, _, rfl, c, m, p, xs, ps, rfl, rfl, h, hN, l1, l2, q⟩
def feeR : RuleD := ⟨.fee, 0, 9, .int 1⟩
theorem feeR_good : feeR.good := by refine ⟨by decide, by decide, by decide, by decide +kernel⟩
theorem ResAt.tk {H H' : Hp} {r : V} {w : Str} {d : PyData} (k : Tk H H') (h : ResAt H r w d) : ResAt H' r w d := by
  obtain ⟨t, x, rfl, h, a, z⟩ := h
  refine ⟨t, x, rfl, k _ _ h, ?_, z⟩
  rcases z with rfl | ⟨i, rfl⟩
  · cases a; exact .non
  · cases a; exact .int _
theorem NdAt.kp {H H' : Hp} {L : List Addr} {v : V} {e : Str × List PyData} (k : Kp L H H') (tk : Tk H H') (h : NdAt H L v e) : NdAt H' L v e := by
  obtain ⟨t, q, xs, rfl, h1, n, h2, h3⟩ := h
  exact ⟨t, q, xs, rfl, tk _ _ h1, n, k _ _ h2 n, Paired.mapP h3 fun _ _ a => a.kp k⟩
theorem NdAt.nil {H : Hp} {L : List Addr} {v : V} {e : Str × List PyData} (h : NdAt H L v e) : NdAt H [] v e := by
  obtain ⟨t, q, xs, rfl, h1, n, h2, h3⟩ := h
  exact ⟨t, q, xs, rfl, h1, by simp, h2, Paired.mapP h3 fun _ _ a => a.nil⟩
theorem ResAt.dp {K : PySem.W.Frag} {H : Hp} {r : V} {w : Str} {d : PyData} (h : ResAt H r w d) : Dp K H r (.tuple [.str w, d]) := by
  obtain ⟨t, x, rfl, h, a, z⟩ := h
  exact .tup (SqT.of h) (.cons (.str _) (.cons a.dp .nil))
theorem one_sh {ds : List PyData} {w : Str × PyData} (h : OneW ds (some w)) : Sh 1 (.tuple [.str w.1, w.2]) := sh_tup fun d hd => by
  simp only [List.mem_cons, List.not_mem_nil, or_false] at hd
  cases h with
  | bad i d h n a =>
    rcases hd with rfl | rfl
    · exact sh_str (x := "no rule") (by decide +kernel) _
    · exact sh_int _ _
  | many rs a l =>
    rcases hd with rfl | rfl
    · exact sh_str (x := "many") (by decide +kernel) _
    · exact sh_non _
theorem out_sh {ps : List (Str × List PyData)} {w : Str × PyData} (h : Out ps w) : Sh 1 (.tuple [.str w.1, w.2]) := by
  cases h with
  | ok => exact sh_no (by decide +kernel)
  | «at» k e w h b o => exact one_sh o
theorem g_eqD_no {K : PySem.W.Frag} {H : Hp} {Q : VK} {x y : V} {a b : Str} {d e : PyData} (h : Dp K H x (.tuple [.str a, d])) (h' : Dp K H y (.tuple [.str b, e])) (s : Sh 1 (.tuple [.str a, d])) (s' : Sh 1 (.tuple [.str b, e])) (n : a ≠ b) (q : Q (.bl false) H) : rEqD K x y H Q :=
  ⟨_, _, h, h', s.ok (by decide), s'.ok (by decide), by
    have : PyData.eqv (.tuple [.str a, d]) (.tuple [.str b, e]) = false := by
      rw [PyData.eqv, PyData.eqvAll, PyData.eqv, beq_false_of_ne n]
      rfl
    rw [this]; exact q⟩
theorem g_rep1 {H : Hp} {Q : VK} {l : Addr} {x : V} {k : Int} (h : H l = some (.lst [x])) (h0 : 0 ≤ k) (h1 : k ≤ 100) (q : ∀ p, Fr H p → Q (.ref p) (upd H p (.lst (List.replicate k.toNat x)))) : rRep (.ref l) (.int k) H Q := g_rep h h0 (by omega) (show 1 ≤ 100 by decide) fun p hp => by
  have e : (List.replicate k.toNat [x]).flatten = List.replicate k.toNat x := by
    generalize k.toNat = m
    induction m with
    | zero => rfl
    | succ m ih => rw [List.replicate_succ, List.flatten_cons, ih, List.replicate_succ]; rfl
  rw [e]
  exact q p hp
theorem tupL {H : Hp} {t p2 : Addr} {xs : List V} (T : Tape H t t t) (h2 : H p2 = some (.lst xs)) : ∀ a zs, H a = some (.tup zs) → a ∉ [t, p2] := fun a zs e z => by
  obtain ⟨⟨_, ht⟩, -⟩ := tape_lst T
  simp only [List.mem_cons, List.not_mem_nil, or_false] at z
  rcases z with rfl | rfl
  · rw [ht] at e; cases e
  · rw [h2] at e; cases e
theorem ats_rusL {H : Hp} {L : List Addr} (l : ∀ a zs, H a = some (.tup zs) → a ∉ L) : ∀ {xs : List V} {rs : List RuleD}, Rus H xs rs → Paired (At H L) xs (rs.map RuleD.told)
  | _, _, .nil => .nil
  | _, _, .cons r t => .cons (r.td.at l) (ats_rusL l t)
theorem ru_rep {H : Hp} {c : Addr} (h : H c = some (.tup [.str "fee", .int 0, .int 9, .int 1])) : ∀ k : Nat, Rus H (List.replicate k (.ref c)) (List.replicate k feeR)
  | 0 => .nil
  | k + 1 => .cons ⟨c, _, rfl, h, .int _⟩ (ru_rep h k)
theorem fee_good {rs : List RuleD} (g : ∀ r ∈ rs, RuleD.good r) (k : Nat) : ∀ r ∈ rs ++ List.replicate k feeR, RuleD.good r := fun r hr => by
  rcases List.mem_append.mp hr with hr | hr
  · exact g r hr
  · rw [(List.mem_replicate.mp hr).2]; exact feeR_good
theorem ni_two {H : Hp} {l t p2 : Addr} {o : HO} (f : Fr H l) (T : Tape H t t t) (h2 : H p2 = some o) : l ∉ [t, p2] := fun z => by
  have := ni_tape f T
  simp only [List.mem_cons, List.not_mem_nil, or_false] at z
  rcases z with z | z
  · exact this (by simp [z])
  · exact ne_of_none h2 f z.symm
/-- the pairs as they come -/
structure RefI (H0 H : Hp) (t p2 pl : Addr) (nl xs : List V) (ps : List (Str × List PyData)) (dv : V) (w : Str × PyData) : Prop where
  T : Tape H t t t
  k : Kp [t, t] H0 H
  hl : H pl = some (.lst nl)
  h2 : H p2 = some (.lst xs)
  P : Paired (NdAt H [t, p2]) xs ps
  D : ResAt H dv w.1 w.2
theorem RefI.step {H0 H H' : Hp} {t p2 pl : Addr} {nl xs : List V} {ps : List (Str × List PyData)} {dv : V} {w : Str × PyData} (I : RefI H0 H t p2 pl nl xs ps dv w) (T : Tape H' t t t) (k : Kp [t, t] H H') (n1 : p2 ≠ t) (n2 : pl ≠ t) : RefI H0 H' t p2 pl nl xs ps dv w :=
  ⟨T, I.k.trans k, k _ _ I.hl (by simp [n2]), k _ _ I.h2 (by simp [n1]), Paired.mapP I.P fun _ _ z => z.kp (fun b o e n => k b o e fun z => n (by simp at z; simp [z])) (tk_kp I.T k), I.D.tk (tk_kp I.T k)⟩
def sp_Linn_refused (K : PySem.W.Frag) : Sp := Sp2 fun x y H Q E => CIn K ∧ ∃ (t p : Addr) (ns : List Str), x = .ref t ∧ y = .ref p ∧ Tape H t t t ∧ H p = some (.lst (ns.map V.str)) ∧ ns.length = 6 ∧ p ≠ t ∧ ∀ H', Tape H' t t t → Kp [t, t] H H' → Q (.bl true) H'
theorem g_Linn_refused {K : PySem.W.Frag} {t p : Addr} {ns : List Str} {H : Hp} {Q : VK} {E : XK} (c : CIn K) (T : Tape H t t t) (h : H p = some (.lst (ns.map V.str))) (l : ns.length = 6) (n : p ≠ t) (q : ∀ H', Tape H' t t t → Kp [t, t] H H' → Q (.bl true) H') : sp_Linn_refused K ([.ref t, .ref p] ++ []) H Q E := ⟨_, _, rfl, c, t, p, ns, rfl, rfl, T, h, l, n, q⟩
def t_Linn_told (K : PySem.W.Frag) : TS :=
  (tSeq (tTryK K (.ref (He.ga K "StayError")) 2 (fun W1 => (tDrop (tMakeX (He.ga K "Inn") (spx_Inn_init K) [] W1 (tCons (tVar 0) (tCons (tVar 1) tNil))))) (tSeq (tIfS (tAnd (tB (tCB (Y.rIsK K) (tCons (tVar 2) (tCons (tC (.ref (He.ga K "NoRule"))) tNil)))) (tNot (tB (tCB (Y.rIsK K) (tCons (tVar 2) (tCons (tC (.ref (He.ga K "TooMany"))) tNil))))))
  (tRet (tTup (tCons (tC (.str "no rule")) (tCons (tXat K (tVar 2) "number") tNil))))
  tNext)
  (tRet (tTup (tCons (tOp (rIxL K) (tLst (tCons (tC (.str "wrong")) (tCons (tC (.str "many")) tNil))) (tCB rInt1 (tCons (tAndV (tCB (Y.rIsK K) (tCons (tVar 2) (tCons (tC (.ref (He.ga K "TooMany"))) tNil))) (tNotV (tCB (Y.rIsK K) (tCons (tVar 2) (tCons (tC (.ref (He.ga K "NoRule"))) tNil))))) tNil))) (tCons (tC .non) tNil))))) (fun _ _ _ _ => False))
  (tRet (tTup (tCons (tC (.str "ok")) (tCons (tC .non) tNil)))))
theorem pure_Linn_told {K : PySem.W.Frag} {x y : V} {H : Hp} {Q : VK} {E : XK} (h : sp_Linn_told K [x, y] H Q E) : t_Linn_told K { nx := fun _ H' => Q .non H', rt := Q } [some x, some y, none] H := by
  obtain ⟨x, y, e, ⟨ci, c, cb, ⟨ce, cn, cm, c1, c2, c3⟩⟩, m, p, xs, ps, rfl, rfl, h, hN, l1, l2, q⟩ := h
  cases e
  unfold t_Linn_told
  walk_at "ss"
  refine gx_mkInn ci c cb cn cm h hN l1 l2 (fun k e i d dd H1 a1 a2 a3 a4 a5 s1 hdd => ?_) (fun k e rs H1 a1 a2 a3 a4 s1 => ?_) fun a1 v H1 s1 => ?_
  · refine w_take (x := "NoRule") ce (by decide) (by decide) (by decide) fun b hb => ?_
    have fa := exAt_fld ce (x := "NoRule") (by decide) hdd hb
    have sb : Same H (upd H1 b (exK b (.ref (He.ga K "NoRule")) (some dd))) := s1.trans (same_new hb)
    walk_at "ss"
    rename_i r hr
    exact q ("no rule", .int (i : Nat)) (.at k e _ a1 (fun u hu => .made (a2 u hu)) (.bad i d a3 a4 a5)) _ _ (sm_new hr sb) (res_new upd_same (.int _) (.inr ⟨_, rfl⟩))
  · refine w_take (x := "TooMany") ce (by decide) (by decide) (by decide) fun b hb => ?_
    have fa := exAt_bare (H := H1) (a := b) ce (x := "TooMany") (by decide)
    have sb : Same H (upd H1 b (exK b (.ref (He.ga K "TooMany")) none)) := s1.trans (same_new hb)
    walk_at "ss"
    rename_i l hl
    refine .inr ⟨_, rfl, ?_⟩
    refine g_ixL (v := .str "many") (SqL.of upd_same) (by rfl) ?_
    walk_at "ss"
    rename_i r hr
    exact q ("many", .none) (.at k e _ a1 (fun u hu => .made (a2 u hu)) (.many rs a3 a4)) _ _ (sm_new hr (sm_new hl sb)) (res_new upd_same .non (.inl rfl))
  · walk_at "ss"
    rename_i r hr
    exact q ("ok", .none) (.ok fun u hu => .made (a1 u hu)) _ _ (sm_new hr s1) (res_new upd_same .non (.inl rfl))
def t_Linn_refused (K : PySem.W.Frag) : TS :=
  (tSeq (tAsg (tLst tNil) (gName 2))
  (tSeq (tAsg (tTup (tCons (tC (.str "ok")) (tCons (tC .non) tNil))) (gName 3))
  (tSeq (tFor (iList K (tSl (rSlL K) (tVar 1) tNoPart (tPart (tOp rAdd (tC (.int 1)) (tCall (sp_Ltake K) [] E0 (tCons (tVar 0) (tCons (tC (.int 4)) tNil))))))) (gName 4)
  (tSeq (tAsg (tCall (sp_Lsome K) [] E0 (tCons (tVar 0) (tCons (tC (.int 3)) tNil))) (gName 5))
  (tSeq (tAsg (tVar 3) (gName 6))
  (tSeq (tAsg (tCall (sp_Ltake K) [] E0 (tCons (tVar 0) (tCons (tC (.int 5)) tNil))) (gName 7))
  (tSeq (tIfS (tTest (tOp rEq (tVar 7) (tC (.int 0))))
  (tSeq (tAsg (tTup (tCons (tC (.str "no rule")) (tCons (tCall (sp_Ltake K) [] E0 (tCons (tVar 0) (tCons (tOp rAdd (tCB (rLen K) (tCons (tVar 5) tNil)) (tC (.int 1))) tNil))) tNil))) (gName 6))
  (tDrop (tBM K "list" rInsert (tVar 5) (tCons (tOp (rIxT K) (tVar 6) (tC (.int 1))) (tCons (tOp (rIxL K) (tLst (tCons (tC .non) (tCons (tTup (tCons (tC (.str "price")) (tCons (tC (.int 5)) (tCons (tC (.int 4)) (tCons (tC (.int 1)) tNil))))) (tCons (tLst (tCons (tC (.str "fee")) (tCons (tC (.int 1)) (tCons (tC (.int 2)) (tCons (tC (.int 1)) tNil))))) tNil)))) (tCall (sp_Ltake K) [] E0 (tCons (tVar 0) (tCons (tC (.int 3)) tNil)))) tNil)))))
  (tIfS (tTest (tOp rLt (tVar 7) (tC (.int 3))))
  (tSeq (tAsg (tTup (tCons (tC (.str "many")) (tCons (tC .non) tNil))) (gName 6))
  (tAsg (tOp rCat (tVar 5) (tOp rRep (tLst (tCons (tTup (tCons (tC (.str "fee")) (tCons (tC (.int 0)) (tCons (tC (.int 9)) (tCons (tC (.int 1)) tNil))))) tNil)) (tOp rSub (tC (.int 25)) (tCB (rLen K) (tCons (tVar 5) tNil))))) (gName 5)))
  (tIfS (tTest (tOp rEq (tVar 7) (tC (.int 3))))
  (tSeq (tAsg (tTup (tCons (tC (.str "no rule")) (tCons (tOp rAdd (tC (.int 25)) (tCB (rLen K) (tCons (tVar 5) tNil))) tNil))) (gName 6))
  (tAsg (tOp rCat (tOp rCat (tVar 5) (tOp rRep (tLst (tCons (tTup (tCons (tC (.str "fee")) (tCons (tC (.int 0)) (tCons (tC (.int 9)) (tCons (tC (.int 1)) tNil))))) tNil)) (tC (.int 25)))) (tLst (tCons (tC .non) tNil))) (gName 5)))
  tNext)))
  (tSeq (tDrop (tBM K "list" rAppend (tVar 2) (tCons (tTup (tCons (tVar 4) (tCons (tVar 5) tNil))) tNil)))
  (tIfS (tTest (tOp (rEqD K) (tVar 3) (tTup (tCons (tC (.str "ok")) (tCons (tC .non) tNil)))))
  (tAsg (tVar 6) (gName 3))
  tNext)))))))
  (tRet (tOp (rEqD K) (tCall (sp_Linn_told K) [] E0 (tCons (tOp rAdd (tC (.int 1)) (tCall (sp_Ltake K) [] E0 (tCons (tVar 0) (tCons (tC (.int 9)) tNil)))) (tCons (tVar 2) tNil))) (tVar 3))))))
theorem pure_Linn_refused {K : PySem.W.Frag} {x y : V} {H : Hp} {Q : VK} {E : XK} (h : sp_Linn_refused K [x, y] H Q E) : t_Linn_refused K { nx := fun _ H' => Q .non H', rt := Q } ([some x, some y] ++ List.replicate 6 none) H := by
  obtain ⟨x, y, e, ⟨ci, c, cb, cs⟩, t, p, ns, rfl, rfl, T, h, l, np, q⟩ := h
  cases e
  dsimp only [List.replicate, List.append, List.cons_append, List.nil_append]
  unfold t_Linn_refused
  walk_at "ss"
  rename_i p2 hp2 u0 hu0 d H1 d0 d1 T1 k1
  have k01 : Kp [t, t] H H1 := kp_tr k1 (kp_new hu0 (kp_new hp2 (Kp.refl _ _)))
  have nt2 : p2 ≠ t := fun z => ni_tape hp2 T (by simp [z])
  have h1 := k01 _ _ h (by simp [np])
  have hp21 : H1 p2 = some (.lst []) := k1 _ _ (at_new hu0 upd_same) (by simp [nt2])
  have hu1 : H1 u0 = some (.tup [.str "ok", .non]) := tk_kp (tape_new hu0 (tape_new hp2 T)) k1 _ _ upd_same
  refine g_slTo (by omega) (SqL.of h1) fun pl hpl => ?_
  obtain ⟨nl, enl⟩ : ∃ nl, nl = ns.take (1 + d).toNat := ⟨_, rfl⟩
  have ntl : pl ≠ t := fun z => ni_tape hpl T1 (by simp [z])
  rw [← List.map_take, ← enl]
  have I1 : RefI H (upd H1 pl (.lst (nl.map V.str))) t p2 pl (nl.map V.str) [] [] (.ref u0) ("ok", .none) := ⟨tape_new hpl T1, kp_new hpl k01, upd_same, at_new hpl hp21, .nil, u0, .non, rfl, at_new hpl hu1, .non, .inl rfl⟩
  have nll : nl.length ≤ 6 := by rw [enl, List.length_take]; omega
  have fp2 : Fr H p2 := hp2
  have npl : pl ≠ p2 := (ne_of_none hp21 hpl).symm
  clear hu1 hp21 h1 k1 k01 T1 hpl hu0 hp2
  generalize upd H1 pl (.lst (nl.map V.str)) = G at I1 ⊢
  walk_at "ss"
  refine ⟨pl, rfl, ⟨_, SqL.of I1.hl⟩, ?_⟩
  refine for_list (K := K) (a := pl) (xs := nl.map V.str) (fun i σ H' => ∃ v4 v5 v6 v7 dv xs ps w, σ = [some (.ref t), some (.ref p), some (.ref p2), some dv, v4, v5, v6, v7] ∧ RefI H H' t p2 pl (nl.map V.str) xs ps dv w ∧ ps.length = i ∧ (∀ e ∈ ps, e.2.length ≤ 1000) ∧ Out ps w)
    ⟨_, _, _, _, _, _, _, _, rfl, I1, rfl, by simp, .ok (by simp)⟩ (fun i σ H' _ h => by obtain ⟨_, _, _, _, _, _, _, _, _, I, _⟩ := h; exact SqL.of I.hl) ?_ ?_
  · clear I1
    rintro i x σ H' hi ⟨v4, v5, v6, v7, dv, xs, ps, w, rfl, I, lp, sm, O⟩
    rw [List.getElem?_map] at hi
    obtain ⟨n, hn, rfl⟩ := Option.map_eq_some_iff.mp hi
    have T' := I.T
    have hil := (List.getElem?_eq_some_iff.mp hn).1
    walk_at "ss"
    refine g_Lsome T' (by decide) (by decide) fun p5 us rs H2 T2 k2 f5 h5 r5 l3 g3 => ?_
    have n5 : p5 ∉ [t, t] := ni_tape f5 T'
    have n52 : p5 ≠ p2 := (ne_of_none I.h2 f5).symm
    have ul := ru_len r5
    walk_at "ss"
    rename_i wy H3 wy0 wy1 T3 k3
    have k3' : Kp [t, t] H' H3 := k2.trans k3
    have h3 := k3 _ _ h5 n5
    have r3 := ru_kp k3 T2 r5
    clear k2 k3 h5 r5 T2
    with_reducible refine jn (P := fun σ Hc => ∃ wv p6 xs' ds o, σ = [some (.ref t), some (.ref p), some (.ref p2), some dv, some (.str n), some (.ref p6), some wv, some (.int wy)] ∧ Tape Hc t t t ∧ Kp [t, t] H' Hc ∧ Hc p6 = some (.lst xs') ∧ p6 ∉ [t, p2] ∧ Paired (At Hc [t, p2]) xs' ds ∧ ds.length ≤ 60 ∧ OneW ds o ∧ ((o = none ∧ wv = dv) ∨ ∃ w', o = some w' ∧ ResAt Hc wv w'.1 w'.2)) ?_ fun N hN => ?_
    · clear T3 k3' h3 r3
      rintro σ Hc ⟨wv, p6, xs', ds, o, rfl, Tc, kc, h6, n6, P6, l6, o6, w6⟩
      have Ic := I.step Tc kc nt2 ntl
      have h2 := Ic.h2
      have xl := Paired.length Ic.P
      walk_at "ss"
      rename_i t6 ht6 u7 hu7
      obtain ⟨G, eG⟩ : ∃ G, G = upd (upd (upd Hc t6 (.tup [.str n, .ref p6])) p2 (.lst (xs ++ [.ref t6]))) u7 (.tup [.str "ok", .non]) := ⟨_, rfl⟩
      have kG : Kp [t, p2] Hc G := fun b o e n => by
        rw [eG]
        exact at_new hu7 (at_ne (fun z => n (by simp [z])) (at_new ht6 e))
      have kG2 : Kp [p2] Hc G := fun b o e n => by
        rw [eG]
        exact at_new hu7 (at_ne (fun z => n (by simp [z])) (at_new ht6 e))
      have tkG : Tk Hc G := tk_mut kG2 (muts_one h2)
      have n62 : t6 ≠ p2 := (ne_of_none h2 ht6).symm
      have gt : G t6 = some (.tup [.str n, .ref p6]) := by rw [eG]; exact at_new hu7 (at_ne n62 upd_same)
      have gu : G u7 = some (.tup [.str "ok", .non]) := by rw [eG]; exact upd_same
      have g2 : G p2 = some (.lst (xs ++ [.ref t6])) := by rw [eG]; exact at_new hu7 upd_same
      have TG : Tape G t t t := Tc.kp' kG2 (by simpa using nt2.symm)
      have kHG : Kp [t, t] H G := by rw [eG]; exact kp_new hu7 (kp_own fp2 (kp_new ht6 Ic.k))
      have PG : Paired (NdAt G [t, p2]) (xs ++ [.ref t6]) (ps ++ [(n, ds)]) := Paired.app (Paired.mapP Ic.P fun _ _ z => z.kp kG tkG) (.cons ⟨t6, p6, xs', rfl, gt, n6, kG _ _ h6 n6, Paired.mapP P6 fun _ _ a => a.kp kG⟩ .nil)
      have DG := Ic.D.tk tkG
      have wG : (o = none ∧ wv = dv) ∨ ∃ w', o = some w' ∧ ResAt G wv w'.1 w'.2 := w6.imp id fun ⟨w', e, z⟩ => ⟨w', e, z.tk tkG⟩
      have IG : ∀ dv' w', ResAt G dv' w'.1 w'.2 → RefI H G t p2 pl (nl.map V.str) (xs ++ [.ref t6]) (ps ++ [(n, ds)]) dv' w' := fun dv' w' D => ⟨TG, kHG, kG2 _ _ Ic.hl (by simp [npl]), g2, PG, D⟩
      have smG : ∀ e ∈ ps ++ [(n, ds)], e.2.length ≤ 1000 := fun e he => by
        rcases List.mem_append.mp he with he | he
        · exact sm e he
        · rw [List.mem_singleton.mp he]; exact Nat.le_trans l6 (by decide)
      rw [← eG]
      clear eG kG kG2 tkG gt g2 TG kHG PG ht6 hu7 h6 P6 w6 Tc kc
      rcases out_word O with ⟨ew, ed, O1⟩ | ⟨nw, O1⟩
      · rw [ew, ed] at DG
        refine g_eqD_same (d := noD "ok") DG.dp (NoAt.dp ⟨_, rfl, gu⟩) (sh_no (by decide +kernel)) (by decide) ?_
        walk_at "ss"
        have O2 := out_next (e := (n, ds)) O1 o6
        rcases wG with ⟨rfl, rfl⟩ | ⟨w', rfl, D'⟩
        · exact ⟨_, _, _, _, _, _, _, _, rfl, IG _ ("ok", .none) DG, by simp [lp], smG, O2⟩
        · exact ⟨_, _, _, _, _, _, _, _, rfl, IG _ w' D', by simp [lp], smG, O2⟩
      · refine g_eqD_no DG.dp (NoAt.dp ⟨_, rfl, gu⟩) (out_sh O) (sh_no (by decide +kernel)) nw ?_
        walk_at "ss"
        exact ⟨_, _, _, _, _, _, _, _, rfl, IG _ w DG, by simp [lp], smG, O1 _⟩
    · have h2 := k3' _ _ I.h2 (by simp [nt2])
      have ats : Paired (At H3 [t, p2]) us (rs.map RuleD.told) := ats_rusL (tupL T3 h2) r3
      have n6 : p5 ∉ [t, p2] := by simp at n5; simp [n5, n52]
      walk_at "ss"
      refine ite_d (fun z => ?_) fun z => ?_
      · walk_at "ss"
        rename_i bi H4 b0 b1 T4 k4 u6 hu6 c2 hc2 c3 hc3 c5 hc5 d5 H8 d50 d51 T8 k8 xv hxv
        have h4 := k4 _ _ h3 n5
        have h24 := k4 _ _ h2 (by simp [nt2])
        have m1 := same_new (o := .tup [.str "no rule", .int bi]) hu6
        have m2 := sm_new (o := .tup [.str "price", .int 5, .int 4, .int 1]) hc2 m1
        have m3 := sm_new (o := .lst [.str "fee", .int 1, .int 2, .int 1]) hc3 m2
        have m5 := sm_new (o := .lst [.non, .ref c2, .ref c3]) hc5 m3
        have k38 : Kp [t, t] H3 H8 := k4.trans (kp_tr k8 (Same.kp m5 _))
        have T3' := tape_same m5 T4
        have tk8 := tk_kp T3' k8
        have u8 := tk8 _ _ (at_new hc5 (at_new hc3 (at_new hc2 upd_same)) : _ = some (.tup [.str "no rule", .int bi]))
        have c28 := tk8 _ _ (at_new hc5 (at_new hc3 upd_same) : _ = some (.tup [.str "price", .int 5, .int 4, .int 1]))
        have h28 := k38 _ _ h2 (by simp [nt2])
        have h8 := k38 _ _ h3 n5
        have r8 := ru_kp k38 T3 r3
        have c3t : c3 ∉ [t, t] := ni_tape hc3 (tape_same m2 T4)
        have c32 : c3 ≠ p2 := (ne_of_none (m2 _ _ h24) hc3).symm
        have c38 : H8 c3 = some (.lst [.str "fee", .int 1, .int 2, .int 1]) := k8 _ _ (at_new hc5 upd_same) c3t
        have c35 : c3 ≠ p5 := (ne_of_none (m2 _ _ h4) hc3).symm
        obtain ⟨d, aD, nD⟩ : ∃ d, At H8 [t, p2, p5] xv d ∧ asRule d = none := by
          simp only [List.mem_cons, List.not_mem_nil, or_false] at hxv
          rcases hxv with rfl | rfl | rfl
          · exact ⟨.none, .non, rfl⟩
          · refine ⟨.tuple [.str "price", .int 5, .int 4, .int 1], .tup ?_ c28 (.cons (.str _) (.cons (.int _) (.cons (.int _) (.cons (.int _) .nil)))), by decide +kernel⟩
            have := tupL T8 h28 _ _ c28
            simp at this
            simp [this]
            rintro rfl
            rw [h8] at c28
            cases c28
          · refine ⟨.list [.str "fee", .int 1, .int 2, .int 1], .lst ?_ c38 (.cons (.str _) (.cons (.int _) (.cons (.int _) (.cons (.int _) .nil)))), rfl⟩
            simp at c3t
            simp [c3t, c32, c35]
        clear m1 m2 m3 m5 hu6 hc2 hc3 hc5 k4 T4 T3' tk8 h4 h24 c28 c38 hxv
        refine g_insV h8 (by omega) b0 (by omega) ?_
        have kF : Kp [t, p2, p5] H8 (upd H8 p5 (.lst (us.take bi.toNat ++ [xv] ++ us.drop bi.toNat))) := fun b o e n => at_ne (fun z => n (by simp [z])) e
        have tkF : Tk H8 (upd H8 p5 (.lst (us.take bi.toNat ++ [xv] ++ us.drop bi.toNat))) := tk_put h8
        have TF : Tape (upd H8 p5 (.lst (us.take bi.toNat ++ [xv] ++ us.drop bi.toNat))) t t t := tape_own f5 T' T8
        have h2F : (upd H8 p5 (.lst (us.take bi.toNat ++ [xv] ++ us.drop bi.toNat))) p2 = _ := at_ne n52.symm h28
        have atF := ats_rusL (tupL TF h2F) (r8.tk tkF)
        have eb : ((bi.toNat : Nat) : Int) = bi := by omega
        have lt : ((rs.map RuleD.told).take bi.toNat).length = bi.toNat := by rw [List.length_take, List.length_map]; omega
        walk_at "ss"
        refine hN _ _ ⟨.ref u6, p5, _, (rs.map RuleD.told).take bi.toNat ++ [d] ++ (rs.map RuleD.told).drop bi.toNat, some ("no rule", .int (bi.toNat : Nat)), rfl, TF, kp_own f5 (k3'.trans k38), upd_same, n6, Paired.app (Paired.app (Paired.take _ atF) (.cons ((At.kp kF aD).mono (fun _ _ e _ => e) (by simp)) .nil)) (Paired.drop _ atF), ?_, .bad bi.toNat d ?_ nD ⟨rs.take bi.toNat, ?_⟩, .inr ⟨_, rfl, u6, .int bi, rfl, tkF _ _ u8, by rw [eb]; exact .int _, .inr ⟨_, rfl⟩⟩⟩
        · simp only [List.length_append, List.length_take, List.length_drop, List.length_singleton, List.length_map]
          omega
        · rw [List.append_assoc, List.getElem?_append_right (by omega), lt, Nat.sub_self]
          rfl
        · rw [List.append_assoc, List.take_append_of_le_length (by omega), List.take_of_length_le (by omega), ← List.map_take]
          exact allR_of fun r hr => g3 r (List.mem_of_mem_take hr)
      · walk_at "ss"
        refine ite_d (fun z2 => ?_) fun z2 => ?_
        · walk_at "ss"
          rename_i u6 hu6 c1 hc1 c2 hc2
          refine g_rep1 upd_same (by omega) (by omega) fun c3 hc3 => ?_
          refine g_cat (at_new hc3 (at_new hc2 (at_new hc1 (at_new hu6 h3)))) upd_same (by rw [List.length_replicate, sizeLine_eq]; omega) fun l4 hl4 => ?_
          generalize ek : (25 - (us.length : Int)).toNat = k at hc3 hl4 ⊢
          have s1 := same_new (o := .tup [.str "many", .non]) hu6
          have s2 := sm_new (o := .tup [.str "fee", .int 0, .int 9, .int 1]) hc1 s1
          have s3 := sm_new (o := .lst [.ref c1]) hc2 s2
          have s4 := sm_new (o := .lst (List.replicate k (.ref c1))) hc3 s3
          have s5 := sm_new (o := .lst (us ++ List.replicate k (.ref c1))) hl4 s4
          have u5 := at_new (u := .lst (us ++ List.replicate k (.ref c1))) hl4 (at_new (u := .lst (List.replicate k (.ref c1))) hc3 (at_new (u := .lst [.ref c1]) hc2 (at_new (u := .tup [.str "fee", .int 0, .int 9, .int 1]) hc1 (upd_same (H := H3) (a := u6) (o := .tup [.str "many", .non])))))
          have c5 := at_new (u := .lst (us ++ List.replicate k (.ref c1))) hl4 (at_new (u := .lst (List.replicate k (.ref c1))) hc3 (at_new (u := .lst [.ref c1]) hc2 (upd_same (H := upd H3 u6 (.tup [.str "many", .non])) (a := c1) (o := .tup [.str "fee", .int 0, .int 9, .int 1]))))
          have nl4 := ni_two hl4 (tape_same s4 T3) (s4 _ _ h2)
          have T5 := tape_same s5 T3
          have h25 := s5 _ _ h2
          have R5 := ats_rusL (tupL T5 h25) (Paired.app (ru_same s5 r3) (ru_rep c5 k))
          walk_at "ss"
          refine hN _ _ ⟨.ref u6, l4, _, (rs ++ List.replicate k feeR).map RuleD.told, some ("many", .none), rfl, T5, k3'.trans (Same.kp s5 _), upd_same, nl4, R5, ?_, .many (rs ++ List.replicate k feeR) (allR_of (fee_good g3 k)) ?_, .inr ⟨_, rfl, res_new u5 .non (.inl rfl)⟩⟩
          · rw [List.length_map, List.length_append, List.length_replicate]; omega
          · rw [List.length_append, List.length_replicate]; omega
        · walk_at "ss"
          refine ite_d (fun z3 => ?_) fun z3 => ?_
          · walk_at "ss"
            rename_i u6 hu6 c1 hc1 c2 hc2
            refine g_rep1 upd_same (by decide) (by decide) fun c3 hc3 => ?_
            refine g_cat (at_new hc3 (at_new hc2 (at_new hc1 (at_new hu6 h3)))) upd_same (by rw [List.length_replicate, sizeLine_eq]; omega) fun l4 hl4 => ?_
            generalize ek : Int.toNat 25 = k at hc3 hl4 ⊢
            have ek : k = 25 := by rw [← ek]; rfl
            have s1 := same_new (o := .tup [.str "no rule", .int (25 + (us.length : Nat))]) hu6
            have s2 := sm_new (o := .tup [.str "fee", .int 0, .int 9, .int 1]) hc1 s1
            have s3 := sm_new (o := .lst [.ref c1]) hc2 s2
            have s4 := sm_new (o := .lst (List.replicate k (.ref c1))) hc3 s3
            have s5 := sm_new (o := .lst (us ++ List.replicate k (.ref c1))) hl4 s4
            have u5 := at_new (u := .lst (us ++ List.replicate k (.ref c1))) hl4 (at_new (u := .lst (List.replicate k (.ref c1))) hc3 (at_new (u := .lst [.ref c1]) hc2 (at_new (u := .tup [.str "fee", .int 0, .int 9, .int 1]) hc1 (upd_same (H := H3) (a := u6) (o := .tup [.str "no rule", .int (25 + (us.length : Nat))])))))
            have c5 := at_new (u := .lst (us ++ List.replicate k (.ref c1))) hl4 (at_new (u := .lst (List.replicate k (.ref c1))) hc3 (at_new (u := .lst [.ref c1]) hc2 (upd_same (H := upd H3 u6 (.tup [.str "no rule", .int (25 + (us.length : Nat))])) (a := c1) (o := .tup [.str "fee", .int 0, .int 9, .int 1]))))
            have l45 : (upd (upd (upd (upd (upd H3 u6 (.tup [.str "no rule", .int (25 + (us.length : Nat))])) c1 (.tup [.str "fee", .int 0, .int 9, .int 1])) c2 (.lst [.ref c1])) c3 (.lst (List.replicate k (.ref c1)))) l4 (.lst (us ++ List.replicate k (.ref c1)))) l4 = some (.lst (us ++ List.replicate k (.ref c1))) := upd_same
            generalize upd (upd (upd (upd (upd H3 u6 (.tup [.str "no rule", .int (25 + (us.length : Nat))])) c1 (.tup [.str "fee", .int 0, .int 9, .int 1])) c2 (.lst [.ref c1])) c3 (.lst (List.replicate k (.ref c1)))) l4 (.lst (us ++ List.replicate k (.ref c1))) = H5 at s5 u5 c5 l45 ⊢
            clear s1 s2 s3 s4 hl4 hc3 hc2 hc1 hu6
            walk_at "ss"
            rename_i l5 hl5
            refine g_cat (at_new hl5 l45) upd_same (by rw [List.length_append, List.length_replicate, sizeLine_eq]; show us.length + k + 1 ≤ _; omega) fun l6 hl6 => ?_
            have s6 := sm_new (o := .lst [.non]) hl5 s5
            have s7 := sm_new (o := .lst (us ++ List.replicate k (.ref c1) ++ [.non])) hl6 s6
            have u7 := at_new (u := .lst (us ++ List.replicate k (.ref c1) ++ [.non])) hl6 (at_new (u := .lst [.non]) hl5 u5)
            have c7 := at_new (u := .lst (us ++ List.replicate k (.ref c1) ++ [.non])) hl6 (at_new (u := .lst [.non]) hl5 c5)
            have nl6 := ni_two hl6 (tape_same s6 T3) (s6 _ _ h2)
            have T7 := tape_same s7 T3
            have h27 := s7 _ _ h2
            have R7 := ats_rusL (tupL T7 h27) (Paired.app (ru_same s7 r3) (ru_rep c7 k))
            have e25 : ((25 + rs.length : Nat) : Int) = 25 + (us.length : Nat) := by omega
            have ll : ((rs ++ List.replicate k feeR).map RuleD.told).length = 25 + rs.length := by rw [List.length_map, List.length_append, List.length_replicate]; omega
            walk_at "ss"
            refine hN _ _ ⟨.ref u6, l6, _, (rs ++ List.replicate k feeR).map RuleD.told ++ [.none], some ("no rule", .int (25 + rs.length : Nat)), rfl, T7, k3'.trans (Same.kp s7 _), upd_same, nl6, Paired.app R7 (.cons .non .nil), ?_, .bad (25 + rs.length) .none ?_ rfl ⟨rs ++ List.replicate k feeR, ?_⟩, .inr ⟨_, rfl, res_new u7 (by rw [e25]; exact .int _) (.inr ⟨_, rfl⟩)⟩⟩
            · rw [List.length_append, ll, List.length_singleton]; omega
            · rw [List.getElem?_append_right (by omega), ll, Nat.sub_self]
              rfl
            · rw [List.take_left' ll]
              exact allR_of (fee_good g3 k)
          · walk_at "ss"
            exact hN _ _ ⟨dv, p5, us, rs.map RuleD.told, none, rfl, T3, k3', h3, n6, ats, by rw [List.length_map]; omega, .made ⟨rs, allR_of g3, by omega⟩, .inl ⟨rfl, rfl⟩⟩
  · rintro σ H' ⟨v4, v5, v6, v7, dv, xs, ps, w, rfl, I, lp, sm, O⟩
    have T' := I.T
    walk_at "ss"
    rename_i z H2 z0 z1 T2 k2
    have I2 := I.step T2 k2 nt2 ntl
    rw [List.length_map] at lp
    refine g_Linn_told ⟨ci, c, cb, cs⟩ I2.h2 (Paired.mapP I2.P fun _ _ a => a.nil) sm (by omega) fun w' O' r H3 s3 R3 => ?_
    obtain rfl := out_fun O O'
    walk_at "ss"
    refine g_eqD_same R3.dp (ResAt.dp (I2.D.tk (Same.tk s3))) (out_sh O) (by decide) ?_
    exact q H3 (tape_same s3 T2) (I2.k.trans (Same.kp s3 _))
/-! k81: a fresh inn. -/
open PySem PySem.Spec PyProof.Rows L2 TL
/-- a pair of a name and a list of its own -/
def NrF (H1 : Hp) (D : Addr) (H : Hp) (v : V) (e : Str × List RuleD) : Prop := ∃ t q xs, v = .ref t ∧ H t = some (.tup [.str e.1, .ref q]) ∧ q ≠ D ∧ Fr H1 q ∧ H q = some (.lst xs) ∧ Rus H xs e.2
theorem nrF_s {H1 : Hp} (D : Addr) (G G' : Hp) (v : V) (b : Str × List RuleD) (s : Same G G') (h : NrF H1 D G v b) : NrF H1 D G' v b := let ⟨t, q, xs, e, h1, n, f, h2, h3⟩ := h; ⟨t, q, xs, e, s _ _ h1, n, f, s _ _ h2, ru_same s h3⟩
theorem nrF_p {H1 : Hp} (D : Addr) (G : Hp) (zs : List V) (o : HO) (v : V) (b : Str × List RuleD) (e : G D = some (.lst zs)) (h : NrF H1 D G v b) : NrF H1 D (upd G D o) v b := let ⟨t, q, xs, e', h1, n, f, h2, h3⟩ := h; ⟨t, q, xs, e', at_ne (fun z => by rw [z, e] at h1; cases h1) h1, n, f, at_ne n h2, ru_put e h3⟩
theorem NrF.at {H1 : Hp} {D : Addr} {H : Hp} {v : V} {e : Str × List RuleD} (h : NrF H1 D H v e) : NrAt H v e := let ⟨t, q, xs, e, h1, _, _, h3, h4⟩ := h; ⟨t, q, xs, e, h1, h3, h4⟩
theorem NrF.kp {t : Addr} {HP : Hp} {D : Addr} {H H' : Hp} {v : V} {e : Str × List RuleD} (TP : Tape HP t t t) (T : Tape H t t t) (k : Kp [t, t] H H') (h : NrF HP D H v e) : NrF HP D H' v e := by
  obtain ⟨w, q, xs, rfl, h1, n, f, h2, h3⟩ := h
  exact ⟨w, q, xs, rfl, tk_kp T k _ _ h1, n, f, k _ _ h2 (ni_tape f TP), h3.tk (tk_kp T k)⟩
theorem fr_nt {t x : Addr} {H : Hp} (f : Fr H x) (T : Tape H t t t) : x ≠ t := fun z => ni_tape f T (by simp [z])
/-- two inns, apart -/
def TwoI (K : PySem.W.Frag) (HP : Hp) (t : Addr) (i1 i2 : V) (m1 m2 : Int) (sh : Shf) (H : Hp) : Prop := Tape H t t t ∧ Kp [t, t] HP H ∧ ∃ M1 W1 M2 W2, InnAt K H M1 W1 i1 m1 sh [] ∧ InnAt K H M2 W2 i2 m2 sh [] ∧ (∀ x ∈ M1 ++ W1, Fr HP x) ∧ (∀ x ∈ M2 ++ W2, Fr HP x) ∧ ∀ x ∈ M1 ++ W1, x ∉ M2 ++ W2
theorem TwoI.same {K : PySem.W.Frag} {HP : Hp} {t : Addr} {i1 i2 : V} {m1 m2 : Int} {sh : Shf} {H H' : Hp} (I : TwoI K HP t i1 i2 m1 m2 sh H) (s : Same H H') : TwoI K HP t i1 i2 m1 m2 sh H' := by
  obtain ⟨T, k, M1, W1, M2, W2, J1, J2, f1, f2, d⟩ := I
  exact ⟨tape_same s T, k.trans (Same.kp s _), M1, W1, M2, W2, J1.same s, J2.same s, f1, f2, d⟩
theorem nrl_m {HP H : Hp} {t pp : Addr} {M : List Addr} {v : V} {e : Str × List RuleD} (TP : Tape HP t t t) (k : Kp [t, t] HP H) (f : ∀ x ∈ M, Fr HP x) (h : NrL [t, pp] HP v e) : NrL (t :: M) H v e := by
  obtain ⟨w, q, xs, rfl, h1, n, h2, h3⟩ := h
  simp at n
  refine ⟨w, q, xs, rfl, tk_kp TP k _ _ h1, fun z => ?_, k _ _ h2 (by simp [n.1]), h3.tk (tk_kp TP k)⟩
  rcases List.mem_cons.mp z with z | z
  · exact n.1 z
  · rw [show HP q = none from f q z] at h2; cases h2
/-- the lists that are handed -/
theorem prs_qs {H1 H : Hp} {D : Addr} : ∀ {vs : List V} {sh : Shf}, (∀ e ∈ sh, e.2.length ≤ 24) → Paired (NrF H1 D H) vs sh → ∃ Qs : List Addr, (∀ q ∈ Qs, Fr H1 q ∧ q ≠ D ∧ ∃ zs, H q = some (.lst zs) ∧ zs.length ≤ 24) ∧ ∀ v ∈ vs, ∃ t n q, v = .ref t ∧ H t = some (.tup [.str n, .ref q]) ∧ q ∈ Qs
  | _, _, _, .nil => ⟨[], by simp, by simp⟩
  | _, _, l, .cons ⟨t, q, xs, e, h1, n, f, h2, h3⟩ r => by
    obtain ⟨Qs, a, b⟩ := prs_qs (fun e he => l e (by simp [he])) r
    refine ⟨q :: Qs, fun q' hq => ?_, fun v hv => ?_⟩
    · rcases List.mem_cons.mp hq with rfl | hq
      · exact ⟨f, n, xs, h2, by rw [ru_len h3]; exact l _ (by simp)⟩
      · exact a q' hq
    · rcases List.mem_cons.mp hv with rfl | hv
      · exact ⟨t, _, q, e, h1, by simp⟩
      · obtain ⟨t, n, q, e, h, m⟩ := b v hv
        exact ⟨t, n, q, e, h, by simp [m]⟩
theorem lc_names {K : PySem.W.Frag} {t pl : Addr} {nl : List Str} {g : TG} {tt : TT} {te : TE} {vs : List Nat} {σ : L2.St} {H1 : Hp} {Qf : Addr → Hp → Prop} (T1 : Tape H1 t t t) (hl : H1 pl = some (.lst (nl.map V.str))) (nt : pl ≠ t) (hn : nl.length ≤ 10)
    (hs : ∀ (D : Addr) (n : Str) (H : Hp) (N : Hp → Prop), Fr H1 D → Tape H t t t → (∃ acc, H D = some (.lst acc)) → D ∉ [t, t] → (∀ (w q : Addr) (xs : List V) (rs : List RuleD) (H4 : Hp), H4 w = some (.tup [.str n, .ref q]) → q ≠ D → q ≠ t → H4 q = some (.lst xs) → Rus H4 xs rs → rs.length ≤ 24 → (∀ r ∈ rs, RuleD.good r) → Tape H4 t t t → Kp [t, t] H H4 → ∃ acc, H4 D = some (.lst acc) ∧ acc.length < sizeLine ∧ N (upd H4 D (.lst (acc ++ [.ref w])))) →
      g (.str n) (wipe σ vs) H fun σ2 H2 => wipe σ2 vs = wipe σ vs ∧ tt σ2 H2 fun b H3 =>
        if b = true then te σ2 H3 fun y H4 => ∃ acc, H4 D = some (.lst acc) ∧ acc.length < sizeLine ∧ N (upd H4 D (.lst (acc ++ [y]))) else N H3)
    (hd : ∀ D H' (ys : List V) (sh : Shf), Fr H1 D → Tape H' t t t → Kp [t, t] H1 H' → H' D = some (.lst ys) → Paired (NrL [t, D] H') ys sh → sh.map (·.1) = nl → (∀ e ∈ sh, e.2.length ≤ 24) → (∀ e ∈ sh, ∀ r ∈ e.2, RuleD.good r) → Qf D H') :
    ∀ D, Fr H1 D → ∃ W : Nat → Nat → Hp → Prop, (∃ m, W 0 m (upd H1 D (.lst []))) ∧ ∀ i m H, W i m H →
      ((Itl K pl).stop i H ∧ Qf D H) ∨ ((Itl K pl).go i H ∧ ∃ Nx : Hp → Prop, (∀ H', Nx H' → ∃ m', m' < m ∧ W (i + 1) m' H') ∧ ∀ x H', (Itl K pl).yld i H x H' → g x (wipe σ vs) H' fun σ2 H2 => wipe σ2 vs = wipe σ vs ∧ tt σ2 H2 fun b H3 =>
        if b = true then te σ2 H3 fun y H4 => ∃ acc, H4 D = some (.lst acc) ∧ acc.length < sizeLine ∧ Nx (upd H4 D (.lst (acc ++ [y]))) else Nx H3) := fun D hD => by
  have nD : D ∉ [t, t] := ni_tape hD T1
  have npD : pl ≠ D := ne_of_none hl hD
  refine lc_it (walk_list (K := K) (a := pl) (xs := nl.map V.str)) (fun i H => Tape H t t t ∧ Kp [t, t] H1 H ∧ ∃ ys sh, H D = some (.lst ys) ∧ Paired (NrL [t, D] H) ys sh ∧ sh.map (·.1) = nl.take i ∧ (∀ e ∈ sh, e.2.length ≤ 24) ∧ ∀ e ∈ sh, ∀ r ∈ e.2, RuleD.good r) ⟨tape_new hD T1, kp_own hD (Kp.refl _ _), [], [], upd_same, .nil, by simp, by simp, by simp⟩ (fun i H _ h => SqL.of (h.2.1 _ _ hl (by simp [nt]))) (fun i x H H' hi ⟨T, k, ys, sh, ha, hr, hm, h24, hg⟩ y => ?_) fun H ⟨T, k, ys, sh, ha, hr, hm, h24, hg⟩ => hd D H ys sh hD T k ha hr (by rw [hm, List.length_map, List.take_length]) h24 hg
  obtain ⟨rfl, y⟩ := y
  rw [List.getElem?_map] at y
  obtain ⟨n, hn', rfl⟩ := Option.map_eq_some_iff.mp y
  refine hs D n H' _ hD T ⟨ys, ha⟩ nD fun w q xs rs H4 e1 e2 e3 e4 e5 e6 e7 T4 k4 => ?_
  have hD4 := k4 _ _ ha nD
  have lsh : sh.length ≤ i := by
    have := congrArg List.length hm
    rw [List.length_map, List.length_take] at this
    omega
  have hi' : i < nl.length := by rw [List.length_map] at hi; exact hi
  have tk : Tk H' (upd H4 D (.lst (ys ++ [.ref w]))) := fun b zs e => tk_put hD4 b zs (tk_kp T k4 b zs e)
  have kk : Kp [t, D] H' (upd H4 D (.lst (ys ++ [.ref w]))) := fun b o e n => at_ne (fun z => n (by simp [z])) (k4 _ _ e fun z => n (by simp at z; simp [z]))
  refine ⟨ys, hD4, by rw [Paired.length hr, sizeLine_eq]; omega, tape_own hD T1 T4, kp_own hD (k.trans k4), ys ++ [.ref w], sh ++ [(n, rs)], upd_same, Paired.app (Paired.mapP hr fun _ _ z => z.kp kk tk fun q h => h) (.cons ⟨w, q, xs, rfl, tk_put hD4 _ _ e1, by simp [e2, e3], at_ne e2 e4, ru_put hD4 e5⟩ .nil), ?_, fun e he => ?_, fun e he => ?_⟩
  · rw [List.map_append, hm, List.take_add_one, hn']
    rfl
  · rcases List.mem_append.mp he with he | he
    · exact h24 e he
    · rw [List.mem_singleton.mp he]; exact e6
  · rcases List.mem_append.mp he with he | he
    · exact hg e he
    · rw [List.mem_singleton.mp he]; exact e7
def sp_law (K : PySem.W.Frag) : Sp := Sp1 fun x H Q E => CFR K ∧ CFB K ∧ exErrs EI K = true ∧ exInit "NoRule" "number" K = true ∧ exBare "TooMany" K = true ∧ exBare "NoName" K = true ∧ exBare "NoTaken" K = true ∧ exBare "NoDeed" K = true ∧ CFI K ∧ ∃ (a : Addr) (ns : List Int), x = .ref a ∧ SqL K H a (ns.map V.int) ∧ ns.length ≤ 63 ∧ ∀ H', Q (.bl true) H'
def t_law (K : PySem.W.Frag) : TS :=
  (tSeq (tFor (iList K (tOp rCat (tLst (tCons (tC (.int 0)) tNil)) (tSl (rSlL K) (tVar 0) tNoPart (tPart (tC (.int 6)))))) (gName 1)
  (tSeq (tAsg (tCall (sp_Lbegin K) [] E0 (tCons (tVar 1) tNil)) (gName 2))
  (tSeq (tAsg (tCall (sp_Lnames K) [] E0 (tCons (tVar 2) (tCons (tC (.int 6)) tNil))) (gName 3))
  (tSeq (tAsg (tLc (iList K (tSl (rSlL K) (tVar 3) tNoPart (tPart (tOp rAdd (tC (.int 1)) (tCall (sp_Ltake K) [] E0 (tCons (tVar 2) (tCons (tC (.int 4)) tNil))))))) (gName 4) tYes (tTup (tCons (tVar 4) (tCons (tCall (sp_Lsome K) [] E0 (tCons (tVar 2) (tCons (tOp (rIxL K) (tLst (tCons (tC (.int 2)) (tCons (tC (.int 24)) tNil))) (tCall (sp_Ltake K) [] E0 (tCons (tVar 2) (tCons (tC (.int 2)) tNil)))) tNil))) tNil))) [4]) (gName 5))
  (tSeq (tAsg (tLc (iList K (tVar 5)) (gTup K 2 (gCons (gName 4) (gCons (gName 6) gNil))) tYes (tTup (tCons (tVar 4) (tCons (tCB (rListOf K) (tCons (tVar 6) tNil)) tNil))) [4, 6]) (gName 7))
  (tSeq (tAsg (tMake (He.ga K "Inn") (sp_Inn_init K) [] E0 (tCons (tOp rAdd (tC (.int 1)) (tCall (sp_Ltake K) [] E0 (tCons (tVar 2) (tCons (tC (.int 9)) tNil)))) (tCons (tVar 7) tNil))) (gName 8))
  (tSeq (tAsg (tMake (He.ga K "Inn") (sp_Inn_init K) [] E0 (tCons (tOp rAdd (tC (.int 1)) (tCall (sp_Ltake K) [] E0 (tCons (tVar 2) (tCons (tC (.int 9)) tNil)))) (tCons (tVar 7) tNil))) (gName 9))
  (tSeq (tFor (iList K (tVar 7)) (gTup K 2 (gCons (gName 4) (gCons (gName 6) gNil)))
  (tDrop (tBM K "list" rAppend (tVar 6) (tCons (tC .non) tNil))))
  (tSeq (tDrop (tBM K "list" rAppend (tVar 7) (tCons (tTup (tCons (tOp (rIxL K) (tVar 3) (tC (.int 5))) (tCons (tLst tNil) tNil))) tNil)))
  (tSeq (tIfS (tNot (tB (tCall (sp_Linn_refused K) [] E0 (tCons (tVar 2) (tCons (tVar 3) tNil)))))
  (tRet (tC (.bl false)))
  tNext)
  (tSeq (tFor (iRng1 (tCons (tC (.int 2)) tNil)) (gName 10)
  (tSeq (tIfS (tOr (tNot (tB (tCall (sp_Lis_fresh K) [] E0 (tCons (tVar 8) (tCons (tVar 5) tNil))))) (tNot (tB (tCall (sp_Lis_fresh K) [] E0 (tCons (tVar 9) (tCons (tVar 5) tNil))))))
  (tRet (tC (.bl false)))
  tNext)
  (tSeq (tIfS (tTest (tOp rGt (tCB (rLen K) (tCons (tLc (iList K (tOp rCat (tSl (rSlL K) (tVar 3) (tPart (tCB (rLen K) (tCons (tVar 5) tNil))) tNoPart) (tLst (tCons (tC (.str "")) (tCons (tC (.str "A")) tNil))))) (gName 4) (tNot (tB (tCall (sp_Lno_name K) [] E0 (tCons (tVar 8) (tCons (tVar 4) tNil))))) (tVar 4) [4]) tNil)) (tC (.int 0))))
  (tRet (tC (.bl false)))
  tNext)
  (tIfS (tNot (tB (tCall (sp_Llaid_right K) [] E0 (tCons (tVar 2) (tCons (tVar 8) (tCons (tVar 5) tNil))))))
  (tRet (tC (.bl false)))
  tNext))))
  (tIfS (tOr (tNot (tB (tCall (sp_Lis_fresh K) [] E0 (tCons (tVar 8) (tCons (tVar 5) tNil))))) (tNot (tB (tCall (sp_Lis_fresh K) [] E0 (tCons (tVar 9) (tCons (tVar 5) tNil))))))
  (tRet (tC (.bl false)))
  tNext))))))))))))
  (tRet (tC (.bl true))))
theorem pure_law {K : PySem.W.Frag} {x : V} {H : Hp} {Q : VK} {E : XK} (h : sp_law K [x] H Q E) : t_law K { nx := fun _ H' => Q .non H', rt := Q } [some x, none, none, none, none, none, none, none, none, none, none] H := by
  obtain ⟨x, e, cf, cb, ce, cn, cm, c1, c2, c3, ci, a, ns, rfl, hS, hl, q⟩ := h
  cases e
  have cI : CIn K := ⟨ci, cf, cb, ⟨ce, cn, cm, c1, c2, c3⟩⟩
  unfold t_law
  walk_at "ss"
  rename_i q1 hq1 q2 hq2 l hl2
  have e6 : (V.int 0 :: (ns.map V.int).take (Int.toNat 6)) = (0 :: ns.take 6).map V.int := by
    rw [List.map_cons, List.map_take]
    rfl
  have hlG : (upd (upd (upd H q1 (.lst [.int 0])) q2 (.lst ((ns.map V.int).take (Int.toNat 6)))) l (.lst ([.int 0] ++ (ns.map V.int).take (Int.toNat 6)))) l = some (.lst ((0 :: ns.take 6).map V.int)) := by
    rw [upd_same, List.singleton_append, e6]
  generalize (upd (upd (upd H q1 (.lst [.int 0])) q2 (.lst ((ns.map V.int).take (Int.toNat 6)))) l (.lst ([.int 0] ++ (ns.map V.int).take (Int.toNat 6)))) = G at hlG ⊢
  clear hq1 hq2 hl2 e6 hS hl
  refine for_list (K := K) (a := l) (xs := (0 :: ns.take 6).map V.int) (fun i σ H' => ∃ v1 v2 v3 v4 v5 v6 v7 v8 v9 v10, σ = [some (.ref a), v1, v2, v3, v4, v5, v6, v7, v8, v9, v10] ∧ Same G H') ⟨_, _, _, _, _, _, _, _, _, _, rfl, Same.refl _⟩ (fun i σ H' _ h => by obtain ⟨_, _, _, _, _, _, _, _, _, _, _, h⟩ := h; exact SqL.of (h _ _ hlG)) ?_ ?_
  · rintro i x σ H0 hi ⟨v1, v2, v3, v4, v5, v6, v7, v8, v9, v10, rfl, sm⟩
    obtain ⟨cell, rfl⟩ : ∃ c : Int, x = .int c := by
      obtain ⟨c, -, e⟩ := List.mem_map.mp (List.mem_of_getElem? hi)
      exact ⟨c, e.symm⟩
    clear hi hlG
    walk_at "ss"
    rename_i t H1 s1 ft T1
    refine g_Lnames T1 fun pn nms Hn Tn kn fn hn ln on => ?_
    walk_at "ss"
    rename_i d Hd d0 d1 Td kd pl hpl
    have kd1 : Kp [t, t] H1 Hd := kn.trans kd
    have nn : pn ≠ t := fun z => ni_tape fn T1 (by simp [z])
    have hnd := kd _ _ hn (by simp [nn])
    have hpd : (upd Hd pl (.lst ((nms.map V.str).take (1 + d).toNat))) pl = some (.lst ((nms.take (1 + d).toNat).map V.str)) := by rw [upd_same, List.map_take]
    have T3 := tape_new (o := .lst ((nms.map V.str).take (1 + d).toNat)) hpl Td
    have k3 := kp_new (o := .lst ((nms.map V.str).take (1 + d).toNat)) hpl kd1
    have hn3 := at_new (u := .lst ((nms.map V.str).take (1 + d).toNat)) hpl hnd
    have nlt : pl ≠ t := fun z => ni_tape hpl Td (by simp [z])
    generalize upd Hd pl (.lst ((nms.map V.str).take (1 + d).toNat)) = H3 at hpd T3 k3 hn3 ⊢
    obtain ⟨nl, enl⟩ : ∃ nl, nl = nms.take (1 + d).toNat := ⟨_, rfl⟩
    have lnl : nl.length = (1 + d).toNat := by rw [enl, List.length_take]; omega
    rw [← enl] at hpd
    clear Tn kn hn Td kd hnd kd1 hpl
    refine lc_names (nl := nl) T3 hpd nlt (by omega) ?_ ?_
    · intro D n H4 N hD T4 hacc nD hN
      walk_at "ss"
      rename_i p4 hp4 d5 H5 d50 d51 T5 k5 mx hmx
      refine g_Lsome T5 (by omega) (by omega) fun q0 us rs H6 T6 k6 fq hq0 rq lq gq => ?_
      have k46 : Kp [t, t] H4 H6 := (kp_tr k5 (kp_new hp4 (Kp.refl _ _))).trans k6
      have nqt : q0 ≠ t := fun z => ni_tape fq T5 (by simp [z])
      have nqD : q0 ≠ D := fun z => by
        obtain ⟨acc, e⟩ := hacc
        have := (kp_tr k5 (kp_new hp4 (Kp.refl _ _))) _ _ e nD
        rw [← z, show H5 q0 = none from fq] at this
        cases this
      walk_at "ss"
      rename_i w hw
      exact hN w q0 us rs _ upd_same nqD nqt (at_new hw hq0) (ru_new hw rq) (by omega) gq (tape_new hw T6) (kp_new hw k46)
    intro pp HP ys sh fpp TP kP hpp RP shn s24 sg
    have shl : sh.length = (1 + d).toNat := by rw [← lnl, ← shn, List.length_map]
    have yl := Paired.length RP
    have okS : ShOk sh := ⟨by rw [shn, enl]; exact on.nd.sublist (List.take_sublist _ _), s24, sg, by omega⟩
    have k1P := k3.trans kP
    have hnP := kP _ _ hn3 (by simp [nn])
    have npt : pp ≠ t := fun z => ni_tape fpp T3 (by simp [z])
    clear hpd T3 k3 hn3 nlt kP fpp
    walk_at "ss"
    refine lc_own (walk_list (K := K) (a := pp) (xs := ys)) (NrF HP) (fun D G G' v b => nrF_s D G G' v b) (fun D G zs o v b => nrF_p D G zs o v b) (fun i => sh[i]?) (by omega) (fun H' s => SqL.of (s _ _ hpp)) ?_ ?_
    · rintro D j x Ha Hb N hD hj sa ⟨acc, hacc⟩ ⟨rfl, hx⟩ hy hn'
      obtain ⟨⟨n, rs⟩, hk, hz⟩ := Paired.getL RP hx
      obtain ⟨w, q0, us, rfl, hw, nq0, hq0, rq⟩ := hz
      have hw := sa _ _ hw
      have hq0 := sa _ _ hq0
      have rq := ru_same sa rq
      dsimp only at hw rq
      walk_at "ss"
      rename_i l5 hl5 w5 hw5
      exact hy _ _ _ hk (sm_new hw5 (same_new hl5)) ⟨w5, l5, us, rfl, upd_same, (ne_of_none hacc hl5).symm, Same.free sa hl5, at_new hw5 upd_same, ru_new hw5 (ru_new hl5 rq)⟩
    intro ph H4 yh fph s4 hph Rh
    have eF : (List.range ys.length).filterMap (fun i => sh[i]?) = sh := by
      rw [yl]
      have := range_flt sh some
      simpa using this
    rw [eF] at Rh
    walk_at "ss"
    rename_i r1 H5 r10 r11 T5 k5
    have T4 := tape_same s4 TP
    have R5 : Paired (NrF HP ph H5) yh sh := Paired.mapP Rh fun _ _ z => z.kp TP T4 k5
    have nph := fr_nt fph TP
    have hph5 := k5 _ _ hph (by simp [nph])
    have kP5 : Kp [t, t] HP H5 := (Same.kp s4 _).trans k5
    refine g_mkInn ci cf cb hph5 (Paired.mapP R5 fun _ _ z => z.at) okS fun i1 H6 M1 W1 s6 J1 f1 => ?_
    have T6 := tape_same s6 T5
    have f1P : ∀ x ∈ M1 ++ W1, Fr HP x := fun x hx => fr_kp (f1 x hx) kP5 (ni_tape (f1 x hx) T5)
    have t1 : ∀ x ∈ M1 ++ W1, x ∉ [t, t] := fun x hx => ni_tape (f1 x hx) T5
    walk_at "ss"
    rename_i r2 H7 r20 r21 T7 k7
    have R7 : Paired (NrF HP ph H7) yh sh := Paired.mapP R5 fun _ _ z => NrF.kp TP T6 k7 (nrF_s _ _ _ _ _ s6 z)
    have hph7 := k7 _ _ (s6 _ _ hph5) (by simp [nph])
    have kP7 : Kp [t, t] HP H7 := kP5.trans ((Same.kp s6 _).trans k7)
    have J17 := J1.keep k7 (muts_tape T6) fun x hx => t1 x hx
    refine g_mkInn ci cf cb hph7 (Paired.mapP R7 fun _ _ z => z.at) okS fun i2 H8 M2 W2 s8 J2 f2 => ?_
    have T8 := tape_same s8 T7
    have f2P : ∀ x ∈ M2 ++ W2, Fr HP x := fun x hx => fr_kp (f2 x hx) kP7 (ni_tape (f2 x hx) T7)
    have dj : ∀ x ∈ M1 ++ W1, x ∉ M2 ++ W2 := fun x hx hx2 => by
      obtain ⟨o, e⟩ := J17.known x hx
      rw [show H7 x = none from f2 x hx2] at e
      cases e
    have J18 := J17.same s8
    have hph8 := s8 _ _ hph7
    have kP8 : Kp [t, t] HP H8 := kP7.trans (Same.kp s8 _)
    obtain ⟨Qs, hQ, hV⟩ := prs_qs s24 Rh
    have yhl := Paired.length R7
    have k45 : Kp [t, t] H4 H8 := k5.trans ((Same.kp s6 _).trans (k7.trans (Same.kp s8 _)))
    have tQ : ∀ q ∈ Qs, q ∉ [t, t] := fun q hq => ni_tape (hQ q hq).1 TP
    have nQ1 : ∀ x ∈ M1 ++ W1, x ∉ Qs := fun x hx z => by
      obtain ⟨-, -, zs, e, -⟩ := hQ x z
      have := k5 _ _ e (tQ x z)
      rw [show H5 x = none from f1 x hx] at this
      cases this
    have nQ2 : ∀ x ∈ M2 ++ W2, x ∉ Qs := fun x hx z => by
      obtain ⟨-, -, zs, e, -⟩ := hQ x z
      have := k7 _ _ (s6 _ _ (k5 _ _ e (tQ x z))) (tQ x z)
      rw [show H7 x = none from f2 x hx] at this
      cases this
    have hQ8 : ∀ q ∈ Qs, ∃ zs, H8 q = some (.lst zs) ∧ zs.length ≤ 24 := fun q hq => by
      obtain ⟨-, -, zs, e, l⟩ := hQ q hq
      exact ⟨zs, k45 _ _ e (tQ q hq), l⟩
    have hV8 : ∀ v ∈ yh, ∃ w n q, v = .ref w ∧ H8 w = some (.tup [.str n, .ref q]) ∧ q ∈ Qs := fun v hv => by
      obtain ⟨w, n, q, e, h, m⟩ := hV v hv
      exact ⟨w, n, q, e, tk_kp T4 k45 _ _ h, m⟩
    have muQ : Muts H8 Qs := fun q hq o e => by
      obtain ⟨zs, h, -⟩ := hQ8 q hq
      rw [h] at e
      cases e
      exact .inl ⟨_, rfl⟩
    have fQ : ∀ q ∈ Qs, Fr HP q := fun q hq => (hQ q hq).1
    have nphQ : ph ∉ Qs := fun z => (hQ ph z).2.1 rfl
    have nph1 : ∀ x ∈ M1 ++ W1, x ≠ ph := fun x hx => (ne_of_none hph5 (f1 x hx)).symm
    have nph2 : ∀ x ∈ M2 ++ W2, x ≠ ph := fun x hx => (ne_of_none hph7 (f2 x hx)).symm
    have t2 : ∀ x ∈ M2 ++ W2, x ∉ [t, t] := fun x hx => ni_tape (f2 x hx) T7
    clear hQ hV k45 f1 f2 k5 k7 s6 s8 J1 J17 hph7 hph5 R5 R7 kP5 kP7 T5 T6 T7 Rh T4 s4 hph eF
    walk_at "ss"
    refine for_list (K := K) (a := ph) (xs := yh) (fun i σ H' => ∃ v4 v6, σ = [some (.ref a), some (.int cell), some (.ref t), some (.ref pn), v4, some (.ref pp), v6, some (.ref ph), some i1, some i2, v10] ∧ Kp Qs H8 H' ∧ ∀ q ∈ Qs, ∃ zs, H' q = some (.lst zs) ∧ zs.length ≤ 24 + i)
      ⟨_, _, rfl, Kp.refl _ _, hQ8⟩ (fun i σ H' _ h => by obtain ⟨_, _, _, h, _⟩ := h; exact SqL.of (h _ _ hph8 nphQ)) ?_ ?_
    · rintro i x σ H' hi ⟨v4, v6, rfl, k, hz⟩
      obtain ⟨w, n, q0, rfl, hw, mq⟩ := hV8 x (List.mem_of_getElem? hi)
      have hw := tk_mut k muQ _ _ hw
      obtain ⟨zs, hq0, lz⟩ := hz q0 mq
      have hil := (List.getElem?_eq_some_iff.mp hi).1
      walk_at "ss"
      refine ⟨_, _, rfl, k.trans (kp_upd mq), fun q' hq' => ?_⟩
      by_cases z : q' = q0
      · rw [z]
        exact ⟨_, upd_same, by rw [List.length_append, List.length_singleton]; omega⟩
      · obtain ⟨zs', e, l'⟩ := hz q' hq'
        exact ⟨zs', at_ne z e, by omega⟩
    · rintro σ H9 ⟨v4, v6, rfl, k89, hz9⟩
      have npQ : pn ∉ Qs := fun z => by rw [show HP pn = none from fQ pn z] at hnP; cases hnP
      have hn8 := kP8 _ _ hnP (by simp [nn])
      have hn9 := k89 _ _ hn8 npQ
      have hph9 := k89 _ _ hph8 nphQ
      have J19 := J18.keep k89 muQ nQ1
      have J29 := J2.keep k89 muQ nQ2
      have tnQ : t ∉ Qs := fun z => tQ t z (by simp)
      have T9 := T8.kp' k89 tnQ
      have kP9 : Kp [t, t] HP H9 := kp_wide kP8 k89 fun x hx => .inr (fQ x hx)
      clear hz9 k89 hQ8 hV8 muQ fQ npQ tnQ nphQ nQ1 nQ2 tQ J18 J2 hph8 hn8 T8 kP8
      walk_at "ss"
      refine g_pickL (n := 6) hn9 (by decide) (by decide) (by rw [List.length_map, ln]; rfl) fun nv hnv => ?_
      walk_at "ss"
      rename_i l10 hl10 w10 hw10
      obtain ⟨H10, e10⟩ : ∃ H10, H10 = upd (upd (upd H9 l10 (.lst [])) w10 (.tup [nv, .ref l10])) ph (.lst (yh ++ [.ref w10])) := ⟨_, rfl⟩
      have sX := sm_new (o := .tup [nv, .ref l10]) hw10 (same_new (o := .lst []) hl10)
      have hphX := sX _ _ hph9
      have kX : Kp [ph] (upd (upd H9 l10 (.lst [])) w10 (.tup [nv, .ref l10])) H10 := by rw [e10]; exact kp_upd (by simp)
      have J1X := (J19.same sX).keep kX (muts_one hphX) fun x hx => by simp [nph1 x hx]
      have J2X := (J29.same sX).keep kX (muts_one hphX) fun x hx => by simp [nph2 x hx]
      have TX := (tape_same sX T9).kp' kX (by simp [nph.symm])
      have kPX : Kp [t, t] HP H10 := kp_wide (kP9.trans (Same.kp sX _)) kX fun x hx => .inr (by rw [List.mem_singleton.mp hx]; exact fph)
      rw [← e10]
      clear e10 sX hphX kX J19 J29 T9 kP9 hph9 hn9 hl10 hw10 hnv
      have hnX := kPX _ _ hnP (by simp [nn])
      refine g_Linn_refused cI TX hnX ln nn fun H11 T11 k11 => ?_
      have J111 := J1X.keep k11 (muts_tape TX) fun x hx => t1 x hx
      have J211 := J2X.keep k11 (muts_tape TX) fun x hx => t2 x hx
      have kP11 := kPX.trans k11
      clear k11 J1X J2X TX kPX hnX
      have I11 : TwoI K HP t i1 i2 (1 + r1) (1 + r2) sh H11 := ⟨T11, kP11, M1, W1, M2, W2, J111, J211, f1P, f2P, dj⟩
      clear T11 kP11 J111 J211 f1P f2P dj t1 t2 nph1 nph2 M1 W1 M2 W2 Qs
      have all : ∀ H, Kp [t, t] HP H → H pp = some (.lst ys) ∧ Paired (NrAt H) ys sh ∧ H pn = some (.lst (nms.map V.str)) := fun H k =>
        ⟨k _ _ hpp (by simp [npt]), Paired.mapP RP fun _ _ z => (nrl_m (M := []) TP k (by simp) z).at, k _ _ hnP (by simp [nn])⟩
      walk_at "ss"
      refine for_range (fun i σ H' => ∃ v10, σ = [some (.ref a), some (.int cell), some (.ref t), some (.ref pn), v4, some (.ref pp), v6, some (.ref ph), some i1, some i2, v10] ∧ TwoI K HP t i1 i2 (1 + r1) (1 + r2) sh H') ⟨_, rfl, I11⟩ ?_ ?_
      · clear I11
        rintro i σ H12 hi ⟨v10, rfl, I⟩
        have I0 := I
        obtain ⟨T, k, M1, W1, M2, W2, J1, J2, f1, f2, dj⟩ := I
        obtain ⟨a1, a2, a3⟩ := all _ k
        walk_at "ss"
        refine g_Lis_fresh cI J1 a1 a2 fun H13 s13 => ?_
        have I1 := I0.same s13
        have J23 := J2.same s13
        obtain ⟨b1, b2, b3⟩ := all _ I1.2.1
        walk_at "ss"
        refine g_Lis_fresh cI J23 b1 b2 fun H14 s14 => ?_
        have I2 := I1.same s14
        have S14 := s13.trans s14
        have J14 := J1.same S14
        obtain ⟨c1', c2', c3'⟩ := all _ I2.2.1
        clear I0 I1 J1 J2 J23 a1 a2 a3 b1 b2 b3 s13 s14
        walk_at "ss"
        rename_i l1 hl1 l2 hl2 l3 hl3
        obtain ⟨zs, ez⟩ : ∃ zs : List Str, zs = nms.drop ys.length ++ ([("" : Str), ("A" : Str)] : List Str) := ⟨_, rfl⟩
        have zl : zs.length ≤ 8 := by rw [ez, List.length_append, List.length_drop]; simp; omega
        have ezs : List.drop ((ys.length : Nat) : Int).toNat (nms.map V.str) ++ [V.str "", V.str "A"] = zs.map V.str := by
          rw [ez, List.map_append, List.map_drop, show (((ys.length : Nat) : Int)).toNat = ys.length by omega]
          rfl
        have zn : ∀ z ∈ zs, lookS sh z = none := fun z hz => lookS_none fun m => by
          rw [shn, enl] at m
          rw [ez] at hz
          rcases List.mem_append.mp hz with hz | hz
          · rw [yl, shl] at hz
            have := on.nd
            rw [← List.take_append_drop (1 + d).toNat nms, List.nodup_append] at this
            exact this.2.2 z m z hz rfl
          · obtain ⟨n1, n2⟩ := on.ne z (List.take_subset _ _ m)
            simp at hz
            rcases hz with rfl | rfl
            · exact n1 rfl
            · exact n2 rfl
        have sX := sm_new (o := .lst (List.drop ((ys.length : Nat) : Int).toNat (nms.map V.str) ++ [V.str "", V.str "A"])) hl3 (sm_new (o := .lst [.str "", .str "A"]) hl2 (same_new (o := .lst (List.drop ((ys.length : Nat) : Int).toNat (nms.map V.str))) hl1))
        have hX : (upd (upd (upd H14 l1 (.lst (List.drop ((ys.length : Nat) : Int).toNat (nms.map V.str)))) l2 (.lst [.str "", .str "A"])) l3 (.lst (List.drop ((ys.length : Nat) : Int).toNat (nms.map V.str) ++ [V.str "", V.str "A"]))) l3 = some (.lst (zs.map V.str)) := by rw [upd_same, ezs]
        have IX := I2.same sX
        have JX := J14.same sX
        generalize (upd (upd (upd H14 l1 (.lst (List.drop ((ys.length : Nat) : Int).toNat (nms.map V.str)))) l2 (.lst [.str "", .str "A"])) l3 (.lst (List.drop ((ys.length : Nat) : Int).toNat (nms.map V.str) ++ [V.str "", V.str "A"]))) = HX at sX hX IX JX ⊢
        clear hl1 hl2 hl3 ezs ez I2 J14 c1' c2' c3'
        refine lc_r (walk_list (K := K) (a := l3) (xs := zs.map V.str)) (fun _ _ (_ : Unit) => True) (fun _ _ _ _ _ _ => trivial) (fun _ => none) (by rw [List.length_map]; omega) (fun H' s => SqL.of (s _ _ hX)) ?_ ?_
        · rintro D j x Ha Hb N hD hj sa ⟨rfl, hx⟩ hy hn'
          rw [List.getElem?_map] at hx
          obtain ⟨z, hz, rfl⟩ := Option.map_eq_some_iff.mp hx
          walk_at "ss"
          refine g_Lno_name cI (JX.same sa) (zn z (List.mem_of_getElem? hz)) (Nat.zero_le _) fun H' s' => ?_
          walk_at "ss"
          exact hn' H' rfl s'
        intro D H15 us hD s15 hus hR
        have e0 : (List.range (zs.map V.str).length).filterMap (fun _ => (none : Option Unit)) = [] := by simp
        rw [e0] at hR
        cases hR
        have I15 := IX.same s15
        clear IX JX hX
        walk_at "ss"
        refine ite_f (by decide) ?_
        obtain ⟨T5, k5, M1, W1, M2, W2, J1, J2, f1, f2, dj⟩ := I15
        obtain ⟨a1, a2, a3⟩ := all _ k5
        obtain ⟨⟨_, etp⟩, -⟩ := tape_lst TP
        have nt1 : ∀ x ∈ M1 ++ W1, x ≠ t := fun x hx => (ne_of_none etp (f1 x hx)).symm
        have nt2 : ∀ x ∈ M2 ++ W2, x ≠ t := fun x hx => (ne_of_none etp (f2 x hx)).symm
        walk_at "ss"
        refine g_Llaid_right cI T5 J1 (fun z => nt1 t z rfl) (fun z => ?_) a1 (Paired.mapP RP fun _ _ z => nrl_m TP k5 (fun x hx => f1 x (List.mem_append_left _ hx)) z) (by rw [shl]; omega) fun H16 M1' W1' T16 k16 J1' m16 => ?_
        · rcases List.mem_cons.mp z with z | z
          · exact npt z
          · rw [show HP pp = none from f1 pp (List.mem_append_left _ z)] at hpp
            cases hpp
        have mu : Muts H15 (t :: M1) := fun m hm o e => by
          rcases List.mem_cons.mp hm with rfl | hm
          · exact muts_tape T5 m (by simp) o e
          · exact J1.muts m hm o e
        have J26 := J2.keep k16 mu fun x hx z => by
          rcases List.mem_cons.mp z with z | z
          · exact nt2 x hx z
          · exact dj x (List.mem_append_left _ z) hx
        have frP : ∀ x, Fr H15 x → Fr HP x := fun x f => fr_kp f k5 (ni_tape f T5)
        have m16' : ∀ x ∈ M1' ++ W1', x ∈ M1 ++ W1 ∨ Fr H15 x := fun x hx => (List.mem_append.mp hx).elim (fun z => (m16.1 x z).imp (List.mem_append_left _) id) fun z => (m16.2 x z).imp (List.mem_append_right _) id
        walk_at "ss"
        refine ⟨_, rfl, T16, kp_wide k5 k16 fun x hx => ?_, M1', W1', M2, W2, J1', J26, fun x hx => ?_, f2, fun x hx hx2 => ?_⟩
        · rcases List.mem_cons.mp hx with rfl | hx
          · exact .inl (by simp)
          · exact .inr (f1 x (List.mem_append_left _ hx))
        · exact (m16' x hx).elim (f1 x) (frP x)
        · rcases m16' x hx with z | z
          · exact dj x z hx2
          · obtain ⟨o, e⟩ := J2.known x hx2
            rw [show H15 x = none from z] at e
            cases e
      · rintro σ H12 ⟨v10, rfl, I⟩
        have I0 := I
        obtain ⟨T, k, M1, W1, M2, W2, J1, J2, f1, f2, dj⟩ := I
        obtain ⟨a1, a2, a3⟩ := all _ k
        walk_at "ss"
        refine g_Lis_fresh cI J1 a1 a2 fun H13 s13 => ?_
        have I1 := I0.same s13
        have J23 := J2.same s13
        obtain ⟨b1, b2, b3⟩ := all _ I1.2.1
        walk_at "ss"
        refine g_Lis_fresh cI J23 b1 b2 fun H14 s14 => ?_
        have I2 := I1.same s14
        walk_at "ss"
        exact ⟨_, _, _, _, _, _, _, _, _, _, rfl, sm.trans (same_kp s1 (k1P.trans I2.2.1) ft ft)⟩
  · rintro σ H' ⟨v1, v2, v3, v4, v5, v6, v7, v8, v9, v10, rfl, sm⟩
    walk_at "ss"
    exact q _
open PySem PySem.Spec PyProof.Rows L2 YHd
/-- what the module's names hold -/
structure Txt (K : PySem.W.Frag) (mg : Str → Option Value) : Prop where
  b_ValueError : mg "ValueError" = none
  b_bool : mg "bool" = none
  b_dict : mg "dict" = none
  b_enumerate : mg "enumerate" = none
  b_int : mg "int" = none
  b_isinstance : mg "isinstance" = none
  b_len : mg "len" = none
  b_list : mg "list" = none
  b_max : mg "max" = none
  b_min : mg "min" = none
  b_range : mg "range" = none
  b_sorted : mg "sorted" = none
  b_str : mg "str" = none
  b_tuple : mg "tuple" = none
  b_zip : mg "zip" = none
  c_LAST_DAY : ∃ u, mg "LAST_DAY" = some u ∧ RelV (.int 1000000) u
  c_MOST_COINS : ∃ u, mg "MOST_COINS" = some u ∧ RelV (.int 1000000000000) u
  c_MOST_NIGHTS : ∃ u, mg "MOST_NIGHTS" = some u ∧ RelV (.int 14) u
  c_MOST_RULES : ∃ u, mg "MOST_RULES" = some u ∧ RelV (.int 24) u
  c_WORDS : ∃ u, mg "WORDS" = some u ∧ RelV (.ref (He.ga K "WORDS")) u
  g_Book : mg "Book" = some (.ref (He.ga K "Book"))
  g_Come : mg "Come" = some (.ref (He.ga K "Come"))
  g_Deal : mg "Deal" = some (.ref (He.ga K "Deal"))
  g_Fee : mg "Fee" = some (.ref (He.ga K "Fee"))
  g_Go : mg "Go" = some (.ref (He.ga K "Go"))
  g_Inn : mg "Inn" = some (.ref (He.ga K "Inn"))
  g_Least : mg "Least" = some (.ref (He.ga K "Least"))
  g_Most : mg "Most" = some (.ref (He.ga K "Most"))
  g_NoDeed : mg "NoDeed" = some (.ref (He.ga K "NoDeed"))
  g_NoName : mg "NoName" = some (.ref (He.ga K "NoName"))
  g_NoRule : mg "NoRule" = some (.ref (He.ga K "NoRule"))
  g_NoTaken : mg "NoTaken" = some (.ref (He.ga K "NoTaken"))
  g_Off : mg "Off" = some (.ref (He.ga K "Off"))
  g_Price : mg "Price" = some (.ref (He.ga K "Price"))
  g_StayError : mg "StayError" = some (.ref (He.ga K "StayError"))
  g_TooMany : mg "TooMany" = some (.ref (He.ga K "TooMany"))
section
variable {P : Program} {w : World} {K : PySem.W.Frag} {mg : Str → Option Value} {base : Heap}
theorem sc_Lbegin : FnScope ["_law_cell"] ["_law_cell"] (defScope s_Lbegin) := ⟨rfl, rfl, rfl, by decide +kernel, rfl, by decide +kernel, by decide +kernel⟩
theorem sc_Ltake : FnScope ["_law_row", "_law_base", "_law_found", "_law_number"] ["_law_row", "_law_base"] (defScope s_Ltake) := ⟨rfl, rfl, rfl, by decide +kernel, rfl, by decide +kernel, by decide +kernel⟩
theorem sc_Lnames : FnScope ["_law_row", "_law_many", "_law_letters", "_law_size", "_law_k", "_law_word", "_law_at", "_law_first", "_law_found", "_law_name"] ["_law_row", "_law_many"] (defScope s_Lnames) := ⟨rfl, rfl, rfl, by decide +kernel, rfl, by decide +kernel, by decide +kernel⟩
theorem sc_Lcoins : FnScope ["_law_row", "_law_few", "_law_many", "_law_great"] ["_law_row"] (defScope s_Lcoins) := ⟨rfl, rfl, rfl, by decide +kernel, rfl, by decide +kernel, by decide +kernel⟩
theorem sc_Lworth : FnScope ["_law_row", "_law_word", "_law_many", "_law_free", "_law_coins_here"] ["_law_row", "_law_word"] (defScope s_Lworth) := ⟨rfl, rfl, rfl, by decide +kernel, rfl, by decide +kernel, by decide +kernel⟩
theorem sc_Lrule : FnScope ["_law_row", "_law_day", "_law_word", "_law_ahead", "_law_first", "_law_last"] ["_law_row", "_law_day"] (defScope s_Lrule) := ⟨rfl, rfl, rfl, by decide +kernel, rfl, by decide +kernel, by decide +kernel⟩
theorem sc_Lsome : FnScope ["_law_row", "_law_many", "_law_k"] ["_law_row", "_law_many"] (defScope s_Lsome) := ⟨rfl, rfl, rfl, by decide +kernel, rfl, by decide +kernel, by decide +kernel⟩
theorem sc_is_whole : FnScope ["thing"] ["thing"] (defScope s_is_whole) := ⟨rfl, rfl, rfl, by decide +kernel, rfl, by decide +kernel, by decide +kernel⟩
theorem sc_is_day : FnScope ["thing"] ["thing"] (defScope s_is_day) := ⟨rfl, rfl, rfl, by decide +kernel, rfl, by decide +kernel, by decide +kernel⟩
theorem sc_is_two_days : FnScope ["thing"] ["thing"] (defScope s_is_two_days) := ⟨rfl, rfl, rfl, by decide +kernel, rfl, by decide +kernel, by decide +kernel⟩
theorem sc_is_stretch : FnScope ["thing"] ["thing"] (defScope s_is_stretch) := ⟨rfl, rfl, rfl, by decide +kernel, rfl, by decide +kernel, by decide +kernel⟩
theorem sc_Rule_init : FnScope ["self", "first", "last", "worth"] ["self", "first", "last", "worth"] (defScope s_Rule_init) := ⟨rfl, rfl, rfl, by decide +kernel, rfl, by decide +kernel, by decide +kernel⟩
theorem sc_made : FnScope ["word", "first", "last", "worth"] ["word", "first", "last", "worth"] (defScope s_made) := ⟨rfl, rfl, rfl, by decide +kernel, rfl, by decide +kernel, by decide +kernel⟩
theorem sc_is_coins : FnScope ["thing"] ["thing"] (defScope s_is_coins) := ⟨rfl, rfl, rfl, by decide +kernel, rfl, by decide +kernel, by decide +kernel⟩
theorem sc_Price_fits : FnScope ["self"] ["self"] (defScope s_Price_fits) := ⟨rfl, rfl, rfl, by decide +kernel, rfl, by decide +kernel, by decide +kernel⟩
theorem sc_Come_fits : FnScope ["self"] ["self"] (defScope s_Come_fits) := ⟨rfl, rfl, rfl, by decide +kernel, rfl, by decide +kernel, by decide +kernel⟩
theorem sc_Go_fits : FnScope ["self"] ["self"] (defScope s_Go_fits) := ⟨rfl, rfl, rfl, by decide +kernel, rfl, by decide +kernel, by decide +kernel⟩
theorem sc_is_nights : FnScope ["thing"] ["thing"] (defScope s_is_nights) := ⟨rfl, rfl, rfl, by decide +kernel, rfl, by decide +kernel, by decide +kernel⟩
theorem sc_Least_fits : FnScope ["self"] ["self"] (defScope s_Least_fits) := ⟨rfl, rfl, rfl, by decide +kernel, rfl, by decide +kernel, by decide +kernel⟩
theorem sc_Most_fits : FnScope ["self"] ["self"] (defScope s_Most_fits) := ⟨rfl, rfl, rfl, by decide +kernel, rfl, by decide +kernel, by decide +kernel⟩
theorem sc_Deal_fits : FnScope ["self", "many", "free"] ["self"] (defScope s_Deal_fits) := ⟨rfl, rfl, rfl, by decide +kernel, rfl, by decide +kernel, by decide +kernel⟩
theorem sc_Fee_fits : FnScope ["self"] ["self"] (defScope s_Fee_fits) := ⟨rfl, rfl, rfl, by decide +kernel, rfl, by decide +kernel, by decide +kernel⟩
theorem sc_rule_of : FnScope ["thing", "rule"] ["thing"] (defScope s_rule_of) := ⟨rfl, rfl, rfl, by decide +kernel, rfl, by decide +kernel, by decide +kernel⟩
theorem sc_Price_word : FnScope ["self"] ["self"] (defScope s_Price_word) := ⟨rfl, rfl, rfl, by decide +kernel, rfl, by decide +kernel, by decide +kernel⟩
theorem sc_Come_word : FnScope ["self"] ["self"] (defScope s_Come_word) := ⟨rfl, rfl, rfl, by decide +kernel, rfl, by decide +kernel, by decide +kernel⟩
theorem sc_Go_word : FnScope ["self"] ["self"] (defScope s_Go_word) := ⟨rfl, rfl, rfl, by decide +kernel, rfl, by decide +kernel, by decide +kernel⟩
theorem sc_Least_word : FnScope ["self"] ["self"] (defScope s_Least_word) := ⟨rfl, rfl, rfl, by decide +kernel, rfl, by decide +kernel, by decide +kernel⟩
theorem sc_Most_word : FnScope ["self"] ["self"] (defScope s_Most_word) := ⟨rfl, rfl, rfl, by decide +kernel, rfl, by decide +kernel, by decide +kernel⟩
theorem sc_Deal_word : FnScope ["self"] ["self"] (defScope s_Deal_word) := ⟨rfl, rfl, rfl, by decide +kernel, rfl, by decide +kernel, by decide +kernel⟩
theorem sc_Fee_word : FnScope ["self"] ["self"] (defScope s_Fee_word) := ⟨rfl, rfl, rfl, by decide +kernel, rfl, by decide +kernel, by decide +kernel⟩
theorem sc_Book_init : FnScope ["self", "rules", "things", "number", "thing", "rule"] ["self", "rules"] (defScope s_Book_init) := ⟨rfl, rfl, rfl, by decide +kernel, rfl, by decide +kernel, by decide +kernel⟩
theorem sc_Inn_init : FnScope ["self", "rooms", "books", "name", "rules"] ["self", "rooms", "books"] (defScope s_Inn_init) := ⟨rfl, rfl, rfl, by decide +kernel, rfl, by decide +kernel, by decide +kernel⟩
theorem sc_NoRule_init : FnScope ["self", "number"] ["self", "number"] (defScope s_NoRule_init) := ⟨rfl, rfl, rfl, by decide +kernel, rfl, by decide +kernel, by decide +kernel⟩
theorem sc_Linn_told : FnScope ["_law_rooms", "_law_pairs", "e"] ["_law_rooms", "_law_pairs"] (defScope s_Linn_told) := ⟨rfl, rfl, rfl, by decide +kernel, rfl, by decide +kernel, by decide +kernel⟩
theorem sc_Linn_refused : FnScope ["_law_row", "_law_names_here", "_law_pairs", "_law_due", "_law_name", "_law_rules", "_law_word", "_law_way"] ["_law_row", "_law_names_here"] (defScope s_Linn_refused) := ⟨rfl, rfl, rfl, by decide +kernel, rfl, by decide +kernel, by decide +kernel⟩
theorem sc_dealt : FnScope ["stays", "until", "stay", "found", "at", "room"] ["stays"] (defScope s_dealt) := ⟨rfl, rfl, rfl, by decide +kernel, rfl, by decide +kernel, by decide +kernel⟩
theorem sc_Inn_rooms : FnScope ["self", "numbers", "number"] ["self"] (defScope s_Inn_rooms) := ⟨rfl, rfl, rfl, by decide +kernel, rfl, by decide +kernel, by decide +kernel⟩
theorem sc_nights_of : FnScope ["stay"] ["stay"] (defScope s_nights_of) := ⟨rfl, rfl, rfl, by decide +kernel, rfl, by decide +kernel, by decide +kernel⟩
theorem sc_Inn_full : FnScope ["self", "stays", "stay", "coins", "cut", "night", "many"] ["self"] (defScope s_Inn_full) := ⟨rfl, rfl, rfl, by decide +kernel, rfl, by decide +kernel, by decide +kernel⟩
theorem sc_Inn_standing : FnScope ["self", "number", "stay", "coins", "cut"] ["self"] (defScope s_Inn_standing) := ⟨rfl, rfl, rfl, by decide +kernel, rfl, by decide +kernel, by decide +kernel⟩
theorem sc_Inn_need_name : FnScope ["self", "name"] ["self", "name"] (defScope s_Inn_need_name) := ⟨rfl, rfl, rfl, by decide +kernel, rfl, by decide +kernel, by decide +kernel⟩
theorem sc_Rule_told : FnScope ["self"] ["self"] (defScope s_Rule_told) := ⟨rfl, rfl, rfl, by decide +kernel, rfl, by decide +kernel, by decide +kernel⟩
theorem sc_Book_rules : FnScope ["self", "rule"] ["self"] (defScope s_Book_rules) := ⟨rfl, rfl, rfl, by decide +kernel, rfl, by decide +kernel, by decide +kernel⟩
theorem sc_Inn_rules_of : FnScope ["self", "name"] ["self", "name"] (defScope s_Inn_rules_of) := ⟨rfl, rfl, rfl, by decide +kernel, rfl, by decide +kernel, by decide +kernel⟩
theorem sc_Inn_keep : FnScope ["self"] ["self"] (defScope s_Inn_keep) := ⟨rfl, rfl, rfl, by decide +kernel, rfl, by decide +kernel, by decide +kernel⟩
theorem sc_Inn_give_back : FnScope ["self", "number"] ["self", "number"] (defScope s_Inn_give_back) := ⟨rfl, rfl, rfl, by decide +kernel, rfl, by decide +kernel, by decide +kernel⟩
theorem sc_laid : FnScope ["elder", "newer"] ["elder", "newer"] (defScope s_laid) := ⟨rfl, rfl, rfl, by decide +kernel, rfl, by decide +kernel, by decide +kernel⟩
theorem sc_Inn_lay : FnScope ["self", "name", "rules", "book"] ["self", "name", "rules"] (defScope s_Inn_lay) := ⟨rfl, rfl, rfl, by decide +kernel, rfl, by decide +kernel, by decide +kernel⟩
theorem sc_Inn_tidy : FnScope ["self", "name", "book"] ["self", "name"] (defScope s_Inn_tidy) := ⟨rfl, rfl, rfl, by decide +kernel, rfl, by decide +kernel, by decide +kernel⟩
theorem sc_Inn_undo : FnScope ["self"] ["self"] (defScope s_Inn_undo) := ⟨rfl, rfl, rfl, by decide +kernel, rfl, by decide +kernel, by decide +kernel⟩
theorem sc_Ldone : FnScope ["_law_inn", "_law_deed", "e", "_law_kinds"] ["_law_inn", "_law_deed"] (defScope s_Ldone) := ⟨rfl, rfl, rfl, by decide +kernel, rfl, by decide +kernel, by decide +kernel⟩
theorem sc_Lis_fresh : FnScope ["_law_inn", "_law_pairs", "_law_gone", "_law_number", "_law_name", "_law_rules"] ["_law_inn", "_law_pairs"] (defScope s_Lis_fresh) := ⟨rfl, rfl, rfl, by decide +kernel, rfl, by decide +kernel, by decide +kernel⟩
theorem sc_Lno_name : FnScope ["_law_inn", "_law_name", "_law_refused", "_law_deeds", "_law_deed"] ["_law_inn", "_law_name"] (defScope s_Lno_name) := ⟨rfl, rfl, rfl, by decide +kernel, rfl, by decide +kernel, by decide +kernel⟩
theorem sc_Llaid_right : FnScope ["_law_row", "_law_inn", "_law_pairs", "_law_name", "_law_rules", "_law_some_here", "_law_due", "_law_bad", "_law_found", "_law_kept"] ["_law_row", "_law_inn", "_law_pairs"] (defScope s_Llaid_right) := ⟨rfl, rfl, rfl, by decide +kernel, rfl, by decide +kernel, by decide +kernel⟩
theorem sc_law : FnScope ["_law_script", "_law_cell", "_law_row", "_law_names_here", "_law_name", "_law_pairs", "_law_rules", "_law_handed", "_law_inn", "_law_other", "_law_turn"] ["_law_script"] (defScope s_law) := ⟨rfl, rfl, rfl, by decide +kernel, rfl, by decide +kernel, by decide +kernel⟩
theorem ok_Lbegin (T : Txt K mg) {f : Addr} {fd : FuncData} (F : FunD K "_law_begin" "_law_begin" (defArgs s_Lbegin) (defBody s_Lbegin) (defScope s_Lbegin) [] [] f fd)  : FnG P w K mg base CX0 1 f fd ["_law_cell"] (sp_Lbegin K) := by
  refine g_def F sc_Lbegin (fun vs H Q E h => ?_) (fun cdv A outer s H vs Q E hr h => ⟨t_Lbegin K, PSs.nox ?_, ?_⟩)
  · obtain ⟨_, rfl, _⟩ := h
    rfl
  · exact (pss_cons (ps_if (pt_cmpR op_ge (pv 0) (pe_op op_pow pe_int pe_int) (nomark _)) (pss_one (ps_ret (pe_lst (pa_cons (pe_op op_sub (pv 0) (pe_op op_pow pe_int pe_int)) (pa_cons pe_int pa_nil))))) pss_nil)
  (pss_one (ps_ret (pe_lst (pa_cons pe_int (pa_cons (pe_op op_add (pe_op op_mod (pv 0) pe_int) pe_int) pa_nil))))))
  · obtain ⟨_, rfl, _⟩ := id h
    exact pure_Lbegin h
theorem ok_Ltake (T : Txt K mg) {f : Addr} {fd : FuncData} (F : FunD K "_law_take" "_law_take" (defArgs s_Ltake) (defBody s_Ltake) (defScope s_Ltake) [] [] f fd)  : FnG P w K mg base CX0 1 f fd ["_law_row", "_law_base"] (sp_Ltake K) := by
  refine g_def F sc_Ltake (fun vs H Q E h => ?_) (fun cdv A outer s H vs Q E hr h => ⟨t_Ltake K, PSs.nox ?_, ?_⟩)
  · obtain ⟨_, _, rfl, _⟩ := h
    rfl
  · exact (pss_cons (ps_if (pt_cmpR op_gt (pe_ix ix_list (pv 0) pe_int (fun _ _ => rfl)) pe_int (nomark _)) (pss_cons (ps_set (i := 2) sc_Ltake.nd rfl (Or.inl rfl) (pe_op op_mod (pe_ix ix_list (pv 0) pe_int (fun _ _ => rfl)) (pv 1)))
  (pss_cons (ps_asg (pe_op op_fdivW (pe_ix ix_list (pv 0) pe_int (fun _ _ => rfl)) (pv 1)) (pg_sub (pv 0) pe_int set_list))
  (pss_one (ps_ret (pv 2))))) pss_nil)
  (pss_cons (ps_asg (pe_op op_mod (pe_op op_add (pe_op op_mul (pe_ix ix_list (pv 0) pe_int (fun _ _ => rfl)) pe_int) pe_int) pe_int) (pg_sub (pv 0) pe_int set_list))
  (pss_cons (ps_set (i := 3) sc_Ltake.nd rfl (Or.inl rfl) (pe_op op_mod (pe_op op_add (pe_op op_add (pe_op op_mul (pe_ix ix_list (pv 0) pe_int (fun _ _ => rfl)) (pe_ix ix_list (pv 0) pe_int (fun _ _ => rfl))) (pe_op op_mul pe_int (pe_ix ix_list (pv 0) pe_int (fun _ _ => rfl)))) pe_int) pe_int))
  (pss_one (ps_ret (pe_op op_mod (pe_op op_fdivW (pv 3) pe_int) (pv 1)))))))
  · obtain ⟨_, _, rfl, _⟩ := id h
    exact pure_Ltake h
theorem ok_Lnames (T : Txt K mg) {f : Addr} {fd : FuncData} (F : FunD K "_law_names" "_law_names" (defArgs s_Lnames) (defBody s_Lnames) (defScope s_Lnames) [] [] f fd) (c_Ltake : Y.Cal P w K mg base CX0 1 "_law_take" (sp_Ltake K) []) : FnG P w K mg base CX0 2 f fd ["_law_row", "_law_many"] (sp_Lnames K) := by
  refine g_def F sc_Lnames (fun vs H Q E h => ?_) (fun cdv A outer s H vs Q E hr h => ⟨t_Lnames K, PSs.nox ?_, ?_⟩)
  · obtain ⟨_, _, rfl, _⟩ := h
    rfl
  · exact (pss_cons (ps_set (i := 2) sc_Lnames.nd rfl (Or.inr rfl) pe_str)
  (pss_cons (ps_set (i := 3) sc_Lnames.nd rfl (Or.inl rfl) (pe_op op_add pe_int (Y.pe_c c_Ltake hr (by decide) rfl pass0 (pa_cons (pv 0) (pa_cons pe_int pa_nil)))))
  (pss_cons (ps_set (i := 5) sc_Lnames.nd rfl (Or.inl rfl) (pe_join pe_str (pe_lc (own := [("_law_k", 4)]) (g := (gName 4)) (tt := tYes) rfl sc_Lnames.nd (pi_range1 rfl T.b_range (pa_cons (pv 3) pa_nil)) (blkOk_by (own := [("_law_k", 4)]) (N := ["_law_row", "_law_many", "_law_letters", "_law_size", "_law_k", "_law_word", "_law_at", "_law_first", "_law_found", "_law_name"]) (sc := defScope s_Lnames) (by decide +kernel)) (fun _ _ _ _ _ => (pg_name (i := 4) sc_Lnames.nd rfl (Or.inl rfl))) (fun _ _ _ _ _ => pts_nil) (fun _ _ _ _ _ => (pe_ix ix_str (pv 2) (Y.pe_c c_Ltake hr (by decide) rfl pass0 (pa_cons (pv 0) (pa_cons pe_int pa_nil))) (fun _ _ => rfl))))))
  (pss_cons (ps_set (i := 6) sc_Lnames.nd rfl (Or.inl rfl) (Y.pe_c c_Ltake hr (by decide) rfl pass0 (pa_cons (pv 0) (pa_cons (pv 3) pa_nil))))
  (pss_cons (ps_set (i := 7) sc_Lnames.nd rfl (Or.inl rfl) (Y.pe_c c_Ltake hr (by decide) rfl pass0 (pa_cons (pv 0) (pa_cons pe_int pa_nil))))
  (pss_cons (ps_set (i := 8) sc_Lnames.nd rfl (Or.inl rfl) (pe_lst pa_nil))
  (pss_cons (ps_for PassesOwn.never rfl (pi_range1 rfl T.b_range (pa_cons (pv 1) pa_nil)) (pg_name (i := 4) sc_Lnames.nd rfl (Or.inl rfl)) (pss_cons (ps_set (i := 9) sc_Lnames.nd rfl (Or.inl rfl) (pe_op op_add_str (pe_op op_add_str (pe_slice C8.sl_txt (pv 5) po_none (po_some (pv 6))) (pe_ix ix_str (pv 2) (pe_op op_mod (pe_op op_add (pv 7) (pv 4)) pe_int) (fun _ _ => rfl))) (pe_slice C8.sl_txt (pv 5) (po_some (pe_op op_add (pv 6) pe_int)) po_none)))
  (pss_one (ps_expr (pe_bm PySem.F.plainAttrs_list PySem.F.slot_list_append PySem.F.type_list_append mt_append (pv 8) (pa_cons (pe_ix ix_list (pe_lst (pa_cons (pv 9) (pa_cons (pe_op op_add_str (pv 9) (pe_ix ix_str (pv 2) (Y.pe_c c_Ltake hr (by decide) rfl pass0 (pa_cons (pv 0) (pa_cons pe_int pa_nil))) (fun _ _ => rfl))) (pa_cons (pe_slice C8.sl_txt (pv 9) po_none (po_some (pe_op op_add (pv 6) pe_int))) pa_nil)))) (Y.pe_c c_Ltake hr (by decide) rfl pass0 (pa_cons (pv 0) (pa_cons pe_int pa_nil))) (fun _ _ => rfl)) pa_nil))))))
  (pss_one (ps_ret (pv 8))))))))))
  · obtain ⟨_, _, rfl, _⟩ := id h
    exact pure_Lnames h
theorem ok_Lcoins (T : Txt K mg) {f : Addr} {fd : FuncData} (F : FunD K "_law_coins" "_law_coins" (defArgs s_Lcoins) (defBody s_Lcoins) (defScope s_Lcoins) [] [] f fd) (c_Ltake : Y.Cal P w K mg base CX0 1 "_law_take" (sp_Ltake K) []) : FnG P w K mg base CX0 2 f fd ["_law_row"] (sp_Lcoins K) := by
  refine g_def F sc_Lcoins (fun vs H Q E h => ?_) (fun cdv A outer s H vs Q E hr h => ⟨t_Lcoins K, PSs.nox ?_, ?_⟩)
  · obtain ⟨_, rfl, _⟩ := h
    rfl
  · exact (pss_cons (ps_set (i := 1) sc_Lcoins.nd rfl (Or.inl rfl) (Y.pe_c c_Ltake hr (by decide) rfl pass0 (pa_cons (pv 0) (pa_cons pe_int pa_nil))))
  (pss_cons (ps_set (i := 2) sc_Lcoins.nd rfl (Or.inl rfl) (pe_op op_mul pe_int (Y.pe_c c_Ltake hr (by decide) rfl pass0 (pa_cons (pv 0) (pa_cons pe_int pa_nil)))))
  (pss_cons (ps_set (i := 3) sc_Lcoins.nd rfl (Or.inl rfl) (pe_op op_add (pe_op op_mul (Y.pe_c c_Ltake hr (by decide) rfl pass0 (pa_cons (pv 0) (pa_cons (pe_op op_pow pe_int pe_int) pa_nil))) (pe_op op_pow pe_int pe_int)) (Y.pe_c c_Ltake hr (by decide) rfl pass0 (pa_cons (pv 0) (pa_cons (pe_op op_pow pe_int pe_int) pa_nil)))))
  (pss_one (ps_ret (pe_ix ix_list (pe_lst (pa_cons (pv 1) (pa_cons (pv 2) (pa_cons (pe_op op_add (pv 1) (pe_op op_mul pe_int (pv 2))) (pa_cons (pv 3) (pa_cons (pe_op op_pow pe_int pe_int) pa_nil)))))) (pe_op op_fdivW (Y.pe_c c_Ltake hr (by decide) rfl pass0 (pa_cons (pv 0) (pa_cons pe_int pa_nil))) pe_int) (fun _ _ => rfl)))))))
  · obtain ⟨_, rfl, _⟩ := id h
    exact pure_Lcoins h
theorem ok_Lworth (T : Txt K mg) {f : Addr} {fd : FuncData} (F : FunD K "_law_worth" "_law_worth" (defArgs s_Lworth) (defBody s_Lworth) (defScope s_Lworth) [] [] f fd) (c_Ltake : Y.Cal P w K mg base CX0 1 "_law_take" (sp_Ltake K) []) (c_Lcoins : Y.Cal P w K mg base CX0 2 "_law_coins" (sp_Lcoins K) []) : FnG P w K mg base CX0 3 f fd ["_law_row", "_law_word"] (sp_Lworth K) := by
  refine g_def F sc_Lworth (fun vs H Q E h => ?_) (fun cdv A outer s H vs Q E hr h => ⟨t_Lworth K, PSs.nox ?_, ?_⟩)
  · obtain ⟨_, _, rfl, _⟩ := h
    rfl
  · exact (pss_cons (ps_if (pt_cmpR op_in_seq (pv 1) (pe_tup (pa_cons pe_str (pa_cons pe_str pa_nil))) (by rfl)) (pss_one (ps_ret (pe_cmpR op_eq (Y.pe_c c_Ltake hr (by decide) rfl pass0 (pa_cons (pv 0) (pa_cons pe_int pa_nil))) pe_int (nomark _)))) pss_nil)
  (pss_cons (ps_if (pt_cmpR op_in_seq (pv 1) (pe_tup (pa_cons pe_str (pa_cons pe_str pa_nil))) (by rfl)) (pss_one (ps_ret (pe_op op_add pe_int (Y.pe_c c_Ltake hr (by decide) rfl pass0 (pa_cons (pv 0) (pa_cons (pe_ix ix_list (pe_lst (pa_cons pe_int (pa_cons pe_int pa_nil))) (Y.pe_c c_Ltake hr (by decide) rfl pass0 (pa_cons (pv 0) (pa_cons pe_int pa_nil))) (fun _ _ => rfl)) pa_nil)))))) pss_nil)
  (pss_cons (ps_if (pt_cmpR op_eq (pv 1) pe_str (nomark _)) (pss_cons (ps_set (i := 2) sc_Lworth.nd rfl (Or.inl rfl) (pe_op op_add pe_int (Y.pe_c c_Ltake hr (by decide) rfl pass0 (pa_cons (pv 0) (pa_cons (pe_ix ix_list (pe_lst (pa_cons pe_int (pa_cons pe_int pa_nil))) (Y.pe_c c_Ltake hr (by decide) rfl pass0 (pa_cons (pv 0) (pa_cons pe_int pa_nil))) (fun _ _ => rfl)) pa_nil)))))
  (pss_cons (ps_set (i := 3) sc_Lworth.nd rfl (Or.inl rfl) (pe_op op_add pe_int (Y.pe_c c_Ltake hr (by decide) rfl pass0 (pa_cons (pv 0) (pa_cons (pe_op op_sub (pv 2) pe_int) pa_nil)))))
  (pss_one (ps_ret (pe_ix ix_list (pe_lst (pa_cons (pe_tup (pa_cons (pv 2) (pa_cons (pv 3) pa_nil))) (pa_cons (pe_tup (pa_cons (pv 2) (pa_cons (pv 3) pa_nil))) (pa_cons pe_non pa_nil)))) (Y.pe_c c_Ltake hr (by decide) rfl pass0 (pa_cons (pv 0) (pa_cons pe_int pa_nil))) (fun _ _ => rfl)))))) pss_nil)
  (pss_cons (ps_set (i := 4) sc_Lworth.nd rfl (Or.inl rfl) (Y.pe_c c_Lcoins hr (by decide) rfl pass0 (pa_cons (pv 0) pa_nil)))
  (pss_cons (ps_if (PW.pt (pw_and (pt_cmpR op_eq (pv 1) pe_str (nomark _)) (pw_and1 (pt_cmpR op_eq (Y.pe_c c_Ltake hr (by decide) rfl pass0 (pa_cons (pv 0) (pa_cons pe_int pa_nil))) pe_int (nomark _))))) (pss_one (ps_ret pe_non)) pss_nil)
  (pss_one (ps_ret (pv 4))))))))
  · obtain ⟨_, _, rfl, _⟩ := id h
    exact pure_Lworth h
theorem ok_Lrule (T : Txt K mg) {f : Addr} {fd : FuncData} (F : FunD K "_law_rule" "_law_rule" (defArgs s_Lrule) (defBody s_Lrule) (defScope s_Lrule) [] [] f fd) (c_Ltake : Y.Cal P w K mg base CX0 1 "_law_take" (sp_Ltake K) []) (c_Lworth : Y.Cal P w K mg base CX0 3 "_law_worth" (sp_Lworth K) []) : FnG P w K mg base CX0 4 f fd ["_law_row", "_law_day"] (sp_Lrule K) := by
  refine g_def F sc_Lrule (fun vs H Q E h => ?_) (fun cdv A outer s H vs Q E hr h => ⟨t_Lrule K, PSs.nox ?_, ?_⟩)
  · obtain ⟨_, _, rfl, _⟩ := h
    rfl
  · exact (pss_cons (ps_set (i := 2) sc_Lrule.nd rfl (Or.inl rfl) (pe_ix ix_list (pe_lst (pa_cons pe_str (pa_cons pe_str (pa_cons pe_str (pa_cons pe_str (pa_cons pe_str (pa_cons pe_str (pa_cons pe_str (pa_cons pe_str (pa_cons pe_str pa_nil)))))))))) (Y.pe_c c_Ltake hr (by decide) rfl pass0 (pa_cons (pv 0) (pa_cons pe_int pa_nil))) (fun _ _ => rfl)))
  (pss_cons (ps_set (i := 3) sc_Lrule.nd rfl (Or.inl rfl) (pe_ix ix_list (pe_lst (pa_cons (pe_op op_sub (Y.pe_c c_Ltake hr (by decide) rfl pass0 (pa_cons (pv 0) (pa_cons pe_int pa_nil))) pe_int) (pa_cons (Y.pe_c c_Ltake hr (by decide) rfl pass0 (pa_cons (pv 0) (pa_cons pe_int pa_nil))) (pa_cons (pe_un un_neg (pv 1)) (pa_cons pe_int pa_nil))))) (Y.pe_c c_Ltake hr (by decide) rfl pass0 (pa_cons (pv 0) (pa_cons pe_int pa_nil))) (fun _ _ => rfl)))
  (pss_cons (ps_set (i := 4) sc_Lrule.nd rfl (Or.inl rfl) (pe_callB (call_min2 rfl) (by rfl) T.b_min (by decide +kernel) (pa_cons (pe_op op_pow pe_int pe_int) (pa_cons (pe_callB (call_max2 rfl) (by rfl) T.b_max (by decide +kernel) (pa_cons pe_int (pa_cons (pe_op op_add (pv 1) (pv 3)) pa_nil))) pa_nil))))
  (pss_cons (ps_set (i := 5) sc_Lrule.nd rfl (Or.inl rfl) (pe_op op_add (pv 4) (pe_ix ix_list (pe_lst (pa_cons pe_int (pa_cons (Y.pe_c c_Ltake hr (by decide) rfl pass0 (pa_cons (pv 0) (pa_cons pe_int pa_nil))) (pa_cons (Y.pe_c c_Ltake hr (by decide) rfl pass0 (pa_cons (pv 0) (pa_cons pe_int pa_nil))) (pa_cons pe_int (pa_cons (pe_op op_pow pe_int pe_int) pa_nil)))))) (Y.pe_c c_Ltake hr (by decide) rfl pass0 (pa_cons (pv 0) (pa_cons pe_int pa_nil))) (fun _ _ => rfl))))
  (pss_one (ps_ret (pe_tup (pa_cons (pv 2) (pa_cons (pv 4) (pa_cons (pe_callB (call_min2 rfl) (by rfl) T.b_min (by decide +kernel) (pa_cons (pe_op op_pow pe_int pe_int) (pa_cons (pv 5) pa_nil))) (pa_cons (Y.pe_c c_Lworth hr (by decide) rfl pass0 (pa_cons (pv 0) (pa_cons (pv 2) pa_nil))) pa_nil)))))))))))
  · obtain ⟨_, _, rfl, _⟩ := id h
    exact pure_Lrule h
theorem ok_Lsome (T : Txt K mg) {f : Addr} {fd : FuncData} (F : FunD K "_law_some" "_law_some" (defArgs s_Lsome) (defBody s_Lsome) (defScope s_Lsome) [] [] f fd) (c_Ltake : Y.Cal P w K mg base CX0 1 "_law_take" (sp_Ltake K) []) (c_Lrule : Y.Cal P w K mg base CX0 4 "_law_rule" (sp_Lrule K) []) : FnG P w K mg base CX0 5 f fd ["_law_row", "_law_many"] (sp_Lsome K) := by
  refine g_def F sc_Lsome (fun vs H Q E h => ?_) (fun cdv A outer s H vs Q E hr h => ⟨t_Lsome K, PSs.nox ?_, ?_⟩)
  · obtain ⟨_, _, rfl, _⟩ := h
    rfl
  · exact (pss_one (ps_ret (pe_lc (own := [("_law_k", 2)]) (g := (gName 2)) (tt := tYes) rfl sc_Lsome.nd (pi_range1 rfl T.b_range (pa_cons (Y.pe_c c_Ltake hr (by decide) rfl pass0 (pa_cons (pv 0) (pa_cons (pe_op op_add (pv 1) pe_int) pa_nil))) pa_nil)) (blkOk_by (own := [("_law_k", 2)]) (N := ["_law_row", "_law_many", "_law_k"]) (sc := defScope s_Lsome) (by decide +kernel)) (fun _ _ _ _ _ => (pg_name (i := 2) sc_Lsome.nd rfl (Or.inl rfl))) (fun _ _ _ _ _ => pts_nil) (fun _ _ _ _ _ => (Y.pe_c c_Lrule hr (by decide) rfl pass0 (pa_cons (pv 0) (pa_cons pe_int pa_nil)))))))
  · obtain ⟨_, _, rfl, _⟩ := id h
    exact pure_Lsome h
theorem ok_is_whole (T : Txt K mg) {f : Addr} {fd : FuncData} (F : FunD K "is_whole" "is_whole" (defArgs s_is_whole) (defBody s_is_whole) (defScope s_is_whole) [] [] f fd)  : FnG P w K mg base CX0 1 f fd ["thing"] (sp_is_whole K) := by
  refine g_def F sc_is_whole (fun vs H Q E h => ?_) (fun cdv A outer s H vs Q E hr h => ⟨t_is_whole K, PSs.nox ?_, ?_⟩)
  · obtain ⟨_, rfl, _⟩ := h
    rfl
  · exact (pss_one (ps_ret (pe_and (pe_callB call_isi (by rfl) T.b_isinstance (by decide +kernel) (pa_cons (pv 0) (pa_cons (pe_bltn (v := .ty "int") (by rfl) T.b_int (by decide +kernel) rfl) pa_nil))) (pe_one (pe_not (pe_callB call_isi (by rfl) T.b_isinstance (by decide +kernel) (pa_cons (pv 0) (pa_cons (pe_bltn (v := .ty "bool") (by rfl) T.b_bool (by decide +kernel) rfl) pa_nil))))))))
  · obtain ⟨_, rfl, _⟩ := id h
    exact pure_is_whole h
theorem ok_is_day (T : Txt K mg) {f : Addr} {fd : FuncData} (F : FunD K "is_day" "is_day" (defArgs s_is_day) (defBody s_is_day) (defScope s_is_day) [] [] f fd) (c_is_whole : Y.Cal P w K mg base CX0 1 "is_whole" (sp_is_whole K) []) : FnG P w K mg base CX0 2 f fd ["thing"] (sp_is_day K) := by
  refine g_def F sc_is_day (fun vs H Q E h => ?_) (fun cdv A outer s H vs Q E hr h => ⟨t_is_day K, PSs.nox ?_, ?_⟩)
  · obtain ⟨_, rfl, _⟩ := h
    rfl
  · exact (pss_one (ps_ret (pe_and (Y.pe_c c_is_whole hr (by decide) rfl pass0 (pa_cons (pv 0) pa_nil)) (pe_one (pe_chain op_le op_le pe_int (pv 0) (pe_glob rfl T.c_LAST_DAY.choose_spec.1 T.c_LAST_DAY.choose_spec.2))))))
  · obtain ⟨_, rfl, _⟩ := id h
    exact pure_is_day h
theorem ok_is_two_days (T : Txt K mg) {f : Addr} {fd : FuncData} (F : FunD K "is_two_days" "is_two_days" (defArgs s_is_two_days) (defBody s_is_two_days) (defScope s_is_two_days) [] [] f fd) (c_is_day : Y.Cal P w K mg base CX0 2 "is_day" (sp_is_day K) []) : FnG P w K mg base CX0 3 f fd ["thing"] (sp_is_two_days K) := by
  refine g_def F sc_is_two_days (fun vs H Q E h => ?_) (fun cdv A outer s H vs Q E hr h => ⟨t_is_two_days K, PSs.nox ?_, ?_⟩)
  · obtain ⟨_, rfl, _⟩ := h
    rfl
  · exact (pss_one (ps_ret (pe_and (pe_callB call_isi (by rfl) T.b_isinstance (by decide +kernel) (pa_cons (pv 0) (pa_cons (pe_bltn (v := .ty "tuple") (by rfl) T.b_tuple (by decide +kernel) rfl) pa_nil))) (pe_and (pe_cmpR op_eq (pe_callB call_len_seq (by rfl) T.b_len (by decide +kernel) (pa_cons (pv 0) pa_nil)) pe_int (nomark _)) (pe_and (Y.pe_c c_is_day hr (by decide) rfl pass0 (pa_cons (pe_ix ix_tup (pv 0) pe_int (fun _ _ => rfl)) pa_nil)) (pe_one (Y.pe_c c_is_day hr (by decide) rfl pass0 (pa_cons (pe_ix ix_tup (pv 0) pe_int (fun _ _ => rfl)) pa_nil))))))))
  · obtain ⟨_, rfl, _⟩ := id h
    exact pure_is_two_days h
theorem ok_is_stretch (T : Txt K mg) {f : Addr} {fd : FuncData} (F : FunD K "is_stretch" "is_stretch" (defArgs s_is_stretch) (defBody s_is_stretch) (defScope s_is_stretch) [] [] f fd) (c_is_two_days : Y.Cal P w K mg base CX0 3 "is_two_days" (sp_is_two_days K) []) : FnG P w K mg base CX0 4 f fd ["thing"] (sp_is_stretch K) := by
  refine g_def F sc_is_stretch (fun vs H Q E h => ?_) (fun cdv A outer s H vs Q E hr h => ⟨t_is_stretch K, PSs.nox ?_, ?_⟩)
  · obtain ⟨_, rfl, _⟩ := h
    rfl
  · exact (pss_one (ps_ret (pe_and (Y.pe_c c_is_two_days hr (by decide) rfl pass0 (pa_cons (pv 0) pa_nil)) (pe_one (pe_cmpR op_le (pe_ix ix_tup (pv 0) pe_int (fun _ _ => rfl)) (pe_ix ix_tup (pv 0) pe_int (fun _ _ => rfl)) (nomark _))))))
  · obtain ⟨_, rfl, _⟩ := id h
    exact pure_is_stretch h
theorem ok_Rule_init (T : Txt K mg) {f : Addr} {fd : FuncData} (F : FunD K "__init__" "Rule.__init__" (defArgs s_Rule_init) (defBody s_Rule_init) (defScope s_Rule_init) [] [] f fd)  : FnG P w K mg base CX0 1 f fd ["self", "first", "last", "worth"] (sp_Rule_init K) := by
  refine g_def F sc_Rule_init (fun vs H Q E h => ?_) (fun cdv A outer s H vs Q E hr h => ⟨t_Rule_init K, PSs.nox ?_, ?_⟩)
  · obtain ⟨_, _, _, _, rfl, _⟩ := h
    rfl
  · exact (pss_cons (ps_fld (pv 0) (pv 1) rfl)
  (pss_cons (ps_fld (pv 0) (pv 2) rfl)
  (pss_one (ps_fld (pv 0) (pv 3) rfl))))
  · obtain ⟨_, _, _, _, rfl, _⟩ := id h
    exact pure_Rule_init h
theorem ok_made (T : Txt K mg) {f : Addr} {fd : FuncData} (F : FunD K "made" "made" (defArgs s_made) (defBody s_made) (defScope s_made) [] [] f fd) (c_Price : Y.Mak P w K mg base CX0 1 "Price" (He.ga K "Price") (sp_Rule_init K) []) (c_Come : Y.Mak P w K mg base CX0 1 "Come" (He.ga K "Come") (sp_Rule_init K) []) (c_Go : Y.Mak P w K mg base CX0 1 "Go" (He.ga K "Go") (sp_Rule_init K) []) (c_Least : Y.Mak P w K mg base CX0 1 "Least" (He.ga K "Least") (sp_Rule_init K) []) (c_Most : Y.Mak P w K mg base CX0 1 "Most" (He.ga K "Most") (sp_Rule_init K) []) (c_Deal : Y.Mak P w K mg base CX0 1 "Deal" (He.ga K "Deal") (sp_Rule_init K) []) (c_Fee : Y.Mak P w K mg base CX0 1 "Fee" (He.ga K "Fee") (sp_Rule_init K) []) : FnG P w K mg base CX0 3 f fd ["word", "first", "last", "worth"] (sp_made K) := by
  refine g_def F sc_made (fun vs H Q E h => ?_) (fun cdv A outer s H vs Q E hr h => ⟨t_made K, PSs.nox ?_, ?_⟩)
  · obtain ⟨_, _, _, _, rfl, _⟩ := h
    rfl
  · exact (pss_cons (ps_if (pt_cmpR op_eq (pv 0) pe_str (nomark _)) (pss_one (ps_ret (Y.pe_k c_Price hr (by decide) rfl pass0 (pa_cons (pv 1) (pa_cons (pv 2) (pa_cons (pv 3) pa_nil)))))) pss_nil)
  (pss_cons (ps_if (pt_cmpR op_eq (pv 0) pe_str (nomark _)) (pss_one (ps_ret (Y.pe_k c_Come hr (by decide) rfl pass0 (pa_cons (pv 1) (pa_cons (pv 2) (pa_cons (pv 3) pa_nil)))))) pss_nil)
  (pss_cons (ps_if (pt_cmpR op_eq (pv 0) pe_str (nomark _)) (pss_one (ps_ret (Y.pe_k c_Go hr (by decide) rfl pass0 (pa_cons (pv 1) (pa_cons (pv 2) (pa_cons (pv 3) pa_nil)))))) pss_nil)
  (pss_cons (ps_if (pt_cmpR op_eq (pv 0) pe_str (nomark _)) (pss_one (ps_ret (Y.pe_k c_Least hr (by decide) rfl pass0 (pa_cons (pv 1) (pa_cons (pv 2) (pa_cons (pv 3) pa_nil)))))) pss_nil)
  (pss_cons (ps_if (pt_cmpR op_eq (pv 0) pe_str (nomark _)) (pss_one (ps_ret (Y.pe_k c_Most hr (by decide) rfl pass0 (pa_cons (pv 1) (pa_cons (pv 2) (pa_cons (pv 3) pa_nil)))))) pss_nil)
  (pss_cons (ps_if (pt_cmpR op_eq (pv 0) pe_str (nomark _)) (pss_one (ps_ret (Y.pe_k c_Deal hr (by decide) rfl pass0 (pa_cons (pv 1) (pa_cons (pv 2) (pa_cons (pv 3) pa_nil)))))) pss_nil)
  (pss_one (ps_ret (Y.pe_k c_Fee hr (by decide) rfl pass0 (pa_cons (pv 1) (pa_cons (pv 2) (pa_cons (pv 3) pa_nil))))))))))))
  · obtain ⟨_, _, _, _, rfl, _⟩ := id h
    exact pure_made h
theorem ok_is_coins (T : Txt K mg) {f : Addr} {fd : FuncData} (F : FunD K "is_coins" "is_coins" (defArgs s_is_coins) (defBody s_is_coins) (defScope s_is_coins) [] [] f fd) (c_is_whole : Y.Cal P w K mg base CX0 1 "is_whole" (sp_is_whole K) []) : FnG P w K mg base CX0 2 f fd ["thing"] (sp_is_coins K) := by
  refine g_def F sc_is_coins (fun vs H Q E h => ?_) (fun cdv A outer s H vs Q E hr h => ⟨t_is_coins K, PSs.nox ?_, ?_⟩)
  · obtain ⟨_, rfl, _⟩ := h
    rfl
  · exact (pss_one (ps_ret (pe_and (Y.pe_c c_is_whole hr (by decide) rfl pass0 (pa_cons (pv 0) pa_nil)) (pe_one (pe_chain op_le op_le pe_int (pv 0) (pe_glob rfl T.c_MOST_COINS.choose_spec.1 T.c_MOST_COINS.choose_spec.2))))))
  · obtain ⟨_, rfl, _⟩ := id h
    exact pure_is_coins h
theorem ok_Price_fits (T : Txt K mg) {f : Addr} {fd : FuncData} (F : FunD K "fits" "Price.fits" (defArgs s_Price_fits) (defBody s_Price_fits) (defScope s_Price_fits) [] [] f fd) (c_is_coins : Y.Cal P w K mg base CX0 2 "is_coins" (sp_is_coins K) []) : FnG P w K mg base CX0 3 f fd ["self"] (sp_Price_fits K) := by
  refine g_def F sc_Price_fits (fun vs H Q E h => ?_) (fun cdv A outer s H vs Q E hr h => ⟨t_Price_fits K, PSs.nox ?_, ?_⟩)
  · obtain ⟨_, rfl, _⟩ := h
    rfl
  · exact (pss_one (ps_ret (pe_or (pe_cmpR op_isN (pe_fld (pv 0) rfl) pe_non (nomark _)) (pe_one (Y.pe_c c_is_coins hr (by decide) rfl pass0 (pa_cons (pe_fld (pv 0) rfl) pa_nil))))))
  · obtain ⟨_, rfl, _⟩ := id h
    exact pure_Price_fits h
theorem ok_Come_fits (T : Txt K mg) {f : Addr} {fd : FuncData} (F : FunD K "fits" "Come.fits" (defArgs s_Come_fits) (defBody s_Come_fits) (defScope s_Come_fits) [] [] f fd)  : FnG P w K mg base CX0 1 f fd ["self"] (sp_Come_fits K) := by
  refine g_def F sc_Come_fits (fun vs H Q E h => ?_) (fun cdv A outer s H vs Q E hr h => ⟨t_Come_fits K, PSs.nox ?_, ?_⟩)
  · obtain ⟨_, rfl, _⟩ := h
    rfl
  · exact (pss_one (ps_ret (pe_callB call_isi (by rfl) T.b_isinstance (by decide +kernel) (pa_cons (pe_fld (pv 0) rfl) (pa_cons (pe_bltn (v := .ty "bool") (by rfl) T.b_bool (by decide +kernel) rfl) pa_nil)))))
  · obtain ⟨_, rfl, _⟩ := id h
    exact pure_Come_fits h
theorem ok_Go_fits (T : Txt K mg) {f : Addr} {fd : FuncData} (F : FunD K "fits" "Go.fits" (defArgs s_Go_fits) (defBody s_Go_fits) (defScope s_Go_fits) [] [] f fd)  : FnG P w K mg base CX0 1 f fd ["self"] (sp_Go_fits K) := by
  refine g_def F sc_Go_fits (fun vs H Q E h => ?_) (fun cdv A outer s H vs Q E hr h => ⟨t_Go_fits K, PSs.nox ?_, ?_⟩)
  · obtain ⟨_, rfl, _⟩ := h
    rfl
  · exact (pss_one (ps_ret (pe_callB call_isi (by rfl) T.b_isinstance (by decide +kernel) (pa_cons (pe_fld (pv 0) rfl) (pa_cons (pe_bltn (v := .ty "bool") (by rfl) T.b_bool (by decide +kernel) rfl) pa_nil)))))
  · obtain ⟨_, rfl, _⟩ := id h
    exact pure_Go_fits h
theorem ok_is_nights (T : Txt K mg) {f : Addr} {fd : FuncData} (F : FunD K "is_nights" "is_nights" (defArgs s_is_nights) (defBody s_is_nights) (defScope s_is_nights) [] [] f fd) (c_is_whole : Y.Cal P w K mg base CX0 1 "is_whole" (sp_is_whole K) []) : FnG P w K mg base CX0 2 f fd ["thing"] (sp_is_nights K) := by
  refine g_def F sc_is_nights (fun vs H Q E h => ?_) (fun cdv A outer s H vs Q E hr h => ⟨t_is_nights K, PSs.nox ?_, ?_⟩)
  · obtain ⟨_, rfl, _⟩ := h
    rfl
  · exact (pss_one (ps_ret (pe_and (Y.pe_c c_is_whole hr (by decide) rfl pass0 (pa_cons (pv 0) pa_nil)) (pe_one (pe_chain op_le op_le pe_int (pv 0) (pe_glob rfl T.c_MOST_NIGHTS.choose_spec.1 T.c_MOST_NIGHTS.choose_spec.2))))))
  · obtain ⟨_, rfl, _⟩ := id h
    exact pure_is_nights h
theorem ok_Least_fits (T : Txt K mg) {f : Addr} {fd : FuncData} (F : FunD K "fits" "Least.fits" (defArgs s_Least_fits) (defBody s_Least_fits) (defScope s_Least_fits) [] [] f fd) (c_is_nights : Y.Cal P w K mg base CX0 2 "is_nights" (sp_is_nights K) []) : FnG P w K mg base CX0 3 f fd ["self"] (sp_Least_fits K) := by
  refine g_def F sc_Least_fits (fun vs H Q E h => ?_) (fun cdv A outer s H vs Q E hr h => ⟨t_Least_fits K, PSs.nox ?_, ?_⟩)
  · obtain ⟨_, rfl, _⟩ := h
    rfl
  · exact (pss_one (ps_ret (Y.pe_c c_is_nights hr (by decide) rfl pass0 (pa_cons (pe_fld (pv 0) rfl) pa_nil))))
  · obtain ⟨_, rfl, _⟩ := id h
    exact pure_Least_fits h
theorem ok_Most_fits (T : Txt K mg) {f : Addr} {fd : FuncData} (F : FunD K "fits" "Most.fits" (defArgs s_Most_fits) (defBody s_Most_fits) (defScope s_Most_fits) [] [] f fd) (c_is_nights : Y.Cal P w K mg base CX0 2 "is_nights" (sp_is_nights K) []) : FnG P w K mg base CX0 3 f fd ["self"] (sp_Most_fits K) := by
  refine g_def F sc_Most_fits (fun vs H Q E h => ?_) (fun cdv A outer s H vs Q E hr h => ⟨t_Most_fits K, PSs.nox ?_, ?_⟩)
  · obtain ⟨_, rfl, _⟩ := h
    rfl
  · exact (pss_one (ps_ret (Y.pe_c c_is_nights hr (by decide) rfl pass0 (pa_cons (pe_fld (pv 0) rfl) pa_nil))))
  · obtain ⟨_, rfl, _⟩ := id h
    exact pure_Most_fits h
theorem ok_Deal_fits (T : Txt K mg) {f : Addr} {fd : FuncData} (F : FunD K "fits" "Deal.fits" (defArgs s_Deal_fits) (defBody s_Deal_fits) (defScope s_Deal_fits) [] [] f fd) (c_is_nights : Y.Cal P w K mg base CX0 2 "is_nights" (sp_is_nights K) []) (c_is_whole : Y.Cal P w K mg base CX0 1 "is_whole" (sp_is_whole K) []) : FnG P w K mg base CX0 3 f fd ["self"] (sp_Deal_fits K) := by
  refine g_def F sc_Deal_fits (fun vs H Q E h => ?_) (fun cdv A outer s H vs Q E hr h => ⟨t_Deal_fits K, PSs.nox ?_, ?_⟩)
  · obtain ⟨_, rfl, _⟩ := h
    rfl
  · exact (pss_cons (ps_if (pt_cmpR op_isN (pe_fld (pv 0) rfl) pe_non (nomark _)) (pss_one (ps_ret pe_bl)) pss_nil)
  (pss_cons (ps_if (PW.pt (pw_or (pt_not (pt_val (pe_callB call_isi (by rfl) T.b_isinstance (by decide +kernel) (pa_cons (pe_fld (pv 0) rfl) (pa_cons (pe_bltn (v := .ty "tuple") (by rfl) T.b_tuple (by decide +kernel) rfl) pa_nil))))) (pw_or1 (pt_cmpR op_ne (pe_callB call_len (by rfl) T.b_len (by decide +kernel) (pa_cons (pe_fld (pv 0) rfl) pa_nil)) pe_int (nomark _))))) (pss_one (ps_ret pe_bl)) pss_nil)
  (pss_cons (ps_asg (pe_fld (pv 0) rfl) (pg_tup (by rfl) (pgs_cons (pg_name (i := 1) sc_Deal_fits.nd rfl (Or.inl rfl)) (pgs_cons (pg_name (i := 2) sc_Deal_fits.nd rfl (Or.inl rfl)) pgs_nil))))
  (pss_one (ps_ret (pe_and (Y.pe_c c_is_nights hr (by decide) rfl pass0 (pa_cons (pv 1) pa_nil)) (pe_and (Y.pe_c c_is_whole hr (by decide) rfl pass0 (pa_cons (pv 2) pa_nil)) (pe_one (pe_chain op_le op_lt pe_int (pv 2) (pv 1))))))))))
  · obtain ⟨_, rfl, _⟩ := id h
    exact pure_Deal_fits h
theorem ok_Fee_fits (T : Txt K mg) {f : Addr} {fd : FuncData} (F : FunD K "fits" "Fee.fits" (defArgs s_Fee_fits) (defBody s_Fee_fits) (defScope s_Fee_fits) [] [] f fd) (c_is_coins : Y.Cal P w K mg base CX0 2 "is_coins" (sp_is_coins K) []) : FnG P w K mg base CX0 3 f fd ["self"] (sp_Fee_fits K) := by
  refine g_def F sc_Fee_fits (fun vs H Q E h => ?_) (fun cdv A outer s H vs Q E hr h => ⟨t_Fee_fits K, PSs.nox ?_, ?_⟩)
  · obtain ⟨_, rfl, _⟩ := h
    rfl
  · exact (pss_one (ps_ret (Y.pe_c c_is_coins hr (by decide) rfl pass0 (pa_cons (pe_fld (pv 0) rfl) pa_nil))))
  · obtain ⟨_, rfl, _⟩ := id h
    exact pure_Fee_fits h
theorem ok_rule_of (T : Txt K mg) {f : Addr} {fd : FuncData} (F : FunD K "rule_of" "rule_of" (defArgs s_rule_of) (defBody s_rule_of) (defScope s_rule_of) [] [] f fd) (c_is_stretch : Y.Cal P w K mg base CX0 4 "is_stretch" (sp_is_stretch K) []) (c_made : Y.Cal P w K mg base CX0 3 "made" (sp_made K) []) (c_Price_fits : Y.Met P w K mg base CX0 3 (He.ga K "Price") "fits" (sp_Price_fits K) []) (c_Come_fits : Y.Met P w K mg base CX0 1 (He.ga K "Come") "fits" (sp_Come_fits K) []) (c_Go_fits : Y.Met P w K mg base CX0 1 (He.ga K "Go") "fits" (sp_Go_fits K) []) (c_Least_fits : Y.Met P w K mg base CX0 3 (He.ga K "Least") "fits" (sp_Least_fits K) []) (c_Most_fits : Y.Met P w K mg base CX0 3 (He.ga K "Most") "fits" (sp_Most_fits K) []) (c_Deal_fits : Y.Met P w K mg base CX0 3 (He.ga K "Deal") "fits" (sp_Deal_fits K) []) (c_Fee_fits : Y.Met P w K mg base CX0 3 (He.ga K "Fee") "fits" (sp_Fee_fits K) []) : FnG P w K mg base CX0 5 f fd ["thing"] (sp_rule_of K) := by
  refine g_def F sc_rule_of (fun vs H Q E h => ?_) (fun cdv A outer s H vs Q E hr h => ⟨t_rule_of K, PSs.nox ?_, ?_⟩)
  · obtain ⟨_, rfl, _⟩ := h
    rfl
  · exact (pss_cons (ps_if (PW.pt (pw_or (pt_not (pt_val (pe_callB call_isi (by rfl) T.b_isinstance (by decide +kernel) (pa_cons (pv 0) (pa_cons (pe_bltn (v := .ty "tuple") (by rfl) T.b_tuple (by decide +kernel) rfl) pa_nil))))) (pw_or (pt_cmpR op_ne (pe_callB call_len_seq (by rfl) T.b_len (by decide +kernel) (pa_cons (pv 0) pa_nil)) pe_int (nomark _)) (pw_or (pt_not (pt_val (pe_callB call_isi (by rfl) T.b_isinstance (by decide +kernel) (pa_cons (pe_ix ix_tup (pv 0) pe_int (fun _ _ => rfl)) (pa_cons (pe_bltn (v := .ty "str") (by rfl) T.b_str (by decide +kernel) rfl) pa_nil))))) (pw_or1 (pt_cmpR op_notIn_seq (pe_ix ix_tup (pv 0) pe_int (fun _ _ => rfl)) (pe_glob rfl T.c_WORDS.choose_spec.1 T.c_WORDS.choose_spec.2) (by rfl))))))) (pss_one (ps_ret pe_non)) pss_nil)
  (pss_cons (ps_if (pt_not (pt_val (Y.pe_c c_is_stretch hr (by decide) rfl pass0 (pa_cons (pe_tup (pa_cons (pe_ix ix_tup (pv 0) pe_int (fun _ _ => rfl)) (pa_cons (pe_ix ix_tup (pv 0) pe_int (fun _ _ => rfl)) pa_nil))) pa_nil)))) (pss_one (ps_ret pe_non)) pss_nil)
  (pss_cons (ps_set (i := 1) sc_rule_of.nd rfl (Or.inl rfl) (Y.pe_c c_made hr (by decide) rfl pass0 (pa_cons (pe_ix ix_tup (pv 0) pe_int (fun _ _ => rfl)) (pa_cons (pe_ix ix_tup (pv 0) pe_int (fun _ _ => rfl)) (pa_cons (pe_ix ix_tup (pv 0) pe_int (fun _ _ => rfl)) (pa_cons (pe_ix ix_tup (pv 0) pe_int (fun _ _ => rfl)) pa_nil))))))
  (pss_cons (ps_if (pt_not (pt_val (Y.pe_rule fun w => match w with | .price => Y.pe_m0 c_Price_fits hr (by decide) pass0 (pv 1) | .come => Y.pe_m0 c_Come_fits hr (by decide) pass0 (pv 1) | .go => Y.pe_m0 c_Go_fits hr (by decide) pass0 (pv 1) | .least => Y.pe_m0 c_Least_fits hr (by decide) pass0 (pv 1) | .most => Y.pe_m0 c_Most_fits hr (by decide) pass0 (pv 1) | .deal => Y.pe_m0 c_Deal_fits hr (by decide) pass0 (pv 1) | .fee => Y.pe_m0 c_Fee_fits hr (by decide) pass0 (pv 1)))) (pss_one (ps_ret pe_non)) pss_nil)
  (pss_one (ps_ret (pv 1)))))))
  · obtain ⟨_, rfl, _⟩ := id h
    exact pure_rule_of h
theorem ok_Price_word (T : Txt K mg) {f : Addr} {fd : FuncData} (F : FunD K "word" "Price.word" (defArgs s_Price_word) (defBody s_Price_word) (defScope s_Price_word) [] [] f fd)  : FnG P w K mg base CX0 1 f fd ["self"] (sp_Price_word K) := by
  refine g_def F sc_Price_word (fun vs H Q E h => ?_) (fun cdv A outer s H vs Q E hr h => ⟨t_Price_word K, PSs.nox ?_, ?_⟩)
  · obtain ⟨_, rfl, _⟩ := h
    rfl
  · exact (pss_one (ps_ret pe_str))
  · obtain ⟨_, rfl, _⟩ := id h
    exact pure_Price_word h
theorem ok_Come_word (T : Txt K mg) {f : Addr} {fd : FuncData} (F : FunD K "word" "Come.word" (defArgs s_Come_word) (defBody s_Come_word) (defScope s_Come_word) [] [] f fd)  : FnG P w K mg base CX0 1 f fd ["self"] (sp_Come_word K) := by
  refine g_def F sc_Come_word (fun vs H Q E h => ?_) (fun cdv A outer s H vs Q E hr h => ⟨t_Come_word K, PSs.nox ?_, ?_⟩)
  · obtain ⟨_, rfl, _⟩ := h
    rfl
  · exact (pss_one (ps_ret pe_str))
  · obtain ⟨_, rfl, _⟩ := id h
    exact pure_Come_word h
theorem ok_Go_word (T : Txt K mg) {f : Addr} {fd : FuncData} (F : FunD K "word" "Go.word" (defArgs s_Go_word) (defBody s_Go_word) (defScope s_Go_word) [] [] f fd)  : FnG P w K mg base CX0 1 f fd ["self"] (sp_Go_word K) := by
  refine g_def F sc_Go_word (fun vs H Q E h => ?_) (fun cdv A outer s H vs Q E hr h => ⟨t_Go_word K, PSs.nox ?_, ?_⟩)
  · obtain ⟨_, rfl, _⟩ := h
    rfl
  · exact (pss_one (ps_ret pe_str))
  · obtain ⟨_, rfl, _⟩ := id h
    exact pure_Go_word h
theorem ok_Least_word (T : Txt K mg) {f : Addr} {fd : FuncData} (F : FunD K "word" "Least.word" (defArgs s_Least_word) (defBody s_Least_word) (defScope s_Least_word) [] [] f fd)  : FnG P w K mg base CX0 1 f fd ["self"] (sp_Least_word K) := by
  refine g_def F sc_Least_word (fun vs H Q E h => ?_) (fun cdv A outer s H vs Q E hr h => ⟨t_Least_word K, PSs.nox ?_, ?_⟩)
  · obtain ⟨_, rfl, _⟩ := h
    rfl
  · exact (pss_one (ps_ret pe_str))
  · obtain ⟨_, rfl, _⟩ := id h
    exact pure_Least_word h
theorem ok_Most_word (T : Txt K mg) {f : Addr} {fd : FuncData} (F : FunD K "word" "Most.word" (defArgs s_Most_word) (defBody s_Most_word) (defScope s_Most_word) [] [] f fd)  : FnG P w K mg base CX0 1 f fd ["self"] (sp_Most_word K) := by
  refine g_def F sc_Most_word (fun vs H Q E h => ?_) (fun cdv A outer s H vs Q E hr h => ⟨t_Most_word K, PSs.nox ?_, ?_⟩)
  · obtain ⟨_, rfl, _⟩ := h
    rfl
  · exact (pss_one (ps_ret pe_str))
  · obtain ⟨_, rfl, _⟩ := id h
    exact pure_Most_word h
theorem ok_Deal_word (T : Txt K mg) {f : Addr} {fd : FuncData} (F : FunD K "word" "Deal.word" (defArgs s_Deal_word) (defBody s_Deal_word) (defScope s_Deal_word) [] [] f fd)  : FnG P w K mg base CX0 1 f fd ["self"] (sp_Deal_word K) := by
  refine g_def F sc_Deal_word (fun vs H Q E h => ?_) (fun cdv A outer s H vs Q E hr h => ⟨t_Deal_word K, PSs.nox ?_, ?_⟩)
  · obtain ⟨_, rfl, _⟩ := h
    rfl
  · exact (pss_one (ps_ret pe_str))
  · obtain ⟨_, rfl, _⟩ := id h
    exact pure_Deal_word h
theorem ok_Fee_word (T : Txt K mg) {f : Addr} {fd : FuncData} (F : FunD K "word" "Fee.word" (defArgs s_Fee_word) (defBody s_Fee_word) (defScope s_Fee_word) [] [] f fd)  : FnG P w K mg base CX0 1 f fd ["self"] (sp_Fee_word K) := by
  refine g_def F sc_Fee_word (fun vs H Q E h => ?_) (fun cdv A outer s H vs Q E hr h => ⟨t_Fee_word K, PSs.nox ?_, ?_⟩)
  · obtain ⟨_, rfl, _⟩ := h
    rfl
  · exact (pss_one (ps_ret pe_str))
  · obtain ⟨_, rfl, _⟩ := id h
    exact pure_Fee_word h
theorem ok_Book_init (T : Txt K mg) {f : Addr} {fd : FuncData} (F : FunD K "__init__" "Book.__init__" (defArgs s_Book_init) (defBody s_Book_init) (defScope s_Book_init) [.non] [] f fd) (c_rule_of : Y.Cal P w K mg base CX0 5 "rule_of" (sp_rule_of K) []) (c_Price_word : Y.Met P w K mg base CX0 1 (He.ga K "Price") "word" (sp_Price_word K) []) (c_Come_word : Y.Met P w K mg base CX0 1 (He.ga K "Come") "word" (sp_Come_word K) []) (c_Go_word : Y.Met P w K mg base CX0 1 (He.ga K "Go") "word" (sp_Go_word K) []) (c_Least_word : Y.Met P w K mg base CX0 1 (He.ga K "Least") "word" (sp_Least_word K) []) (c_Most_word : Y.Met P w K mg base CX0 1 (He.ga K "Most") "word" (sp_Most_word K) []) (c_Deal_word : Y.Met P w K mg base CX0 1 (He.ga K "Deal") "word" (sp_Deal_word K) []) (c_Fee_word : Y.Met P w K mg base CX0 1 (He.ga K "Fee") "word" (sp_Fee_word K) []) : FnG P w K mg base CX0 6 f fd ["self", "rules"] (sp_Book_init K) := by
  refine g_def F sc_Book_init (fun vs H Q E h => ?_) (fun cdv A outer s H vs Q E hr h => ⟨t_Book_init K, PSs.nox ?_, ?_⟩)
  · obtain ⟨_, _, rfl, _⟩ := h
    rfl
  · exact (pss_cons (ps_set (i := 2) sc_Book_init.nd rfl (Or.inl rfl) (pe_lst pa_nil))
  (pss_cons (ps_if (pt_cmpR op_notN (pv 1) pe_non (nomark _)) (pss_one (ps_set (i := 2) sc_Book_init.nd rfl (Or.inl rfl) (pe_callTy call_list_of (by rfl) T.b_list (by decide +kernel) (pa_cons (pv 1) pa_nil)))) pss_nil)
  (pss_cons (ps_fld (pv 0) (pe_lst pa_nil) rfl)
  (pss_cons (ps_fld (pv 0) pe_dnewK rfl)
  (pss_cons (ps_for PassesOwn.never rfl (pi_enum (by rfl) T.b_enumerate (pa_cons (pv 2) pa_nil)) (pg_tup (by rfl) (pgs_cons (pg_name (i := 3) sc_Book_init.nd rfl (Or.inl rfl)) (pgs_cons (pg_name (i := 4) sc_Book_init.nd rfl (Or.inl rfl)) pgs_nil))) (pss_cons (ps_set (i := 5) sc_Book_init.nd rfl (Or.inl rfl) (Y.pe_c c_rule_of hr (by decide) rfl pass0 (pa_cons (pv 4) pa_nil)))
  (pss_cons (ps_if (pt_cmpR op_isN (pv 5) pe_non (nomark _)) (pss_one Y.ps_never) pss_nil)
  (pss_cons (ps_expr (pe_bm PySem.F.plainAttrs_list PySem.F.slot_list_append PySem.F.type_list_append mt_append (pe_fld (pv 0) rfl) (pa_cons (pv 5) pa_nil)))
  (pss_one (ps_expr (pe_bm PySem.F.plainAttrs_list PySem.F.slot_list_insert PySem.F.type_list_insert mt_insert (pe_dsetd (pe_fld (pv 0) rfl) (Y.pe_rule fun w => match w with | .price => Y.pe_m0 c_Price_word hr (by decide) pass0 (pv 5) | .come => Y.pe_m0 c_Come_word hr (by decide) pass0 (pv 5) | .go => Y.pe_m0 c_Go_word hr (by decide) pass0 (pv 5) | .least => Y.pe_m0 c_Least_word hr (by decide) pass0 (pv 5) | .most => Y.pe_m0 c_Most_word hr (by decide) pass0 (pv 5) | .deal => Y.pe_m0 c_Deal_word hr (by decide) pass0 (pv 5) | .fee => Y.pe_m0 c_Fee_word hr (by decide) pass0 (pv 5)) (pe_lst pa_nil) ⟨by rfl, by rfl, by rfl, by rfl⟩) (pa_cons pe_int (pa_cons (pv 5) pa_nil)))))))))
  (pss_one (ps_if (pt_cmpR op_gt (pe_callB call_len_seq (by rfl) T.b_len (by decide +kernel) (pa_cons (pv 2) pa_nil)) (pe_glob rfl T.c_MOST_RULES.choose_spec.1 T.c_MOST_RULES.choose_spec.2) (nomark _)) (pss_one Y.ps_never) pss_nil)))))))
  · obtain ⟨_, _, rfl, _⟩ := id h
    exact pure_Book_init h
theorem ok_Inn_init (T : Txt K mg) {f : Addr} {fd : FuncData} (F : FunD K "__init__" "Inn.__init__" (defArgs s_Inn_init) (defBody s_Inn_init) (defScope s_Inn_init) [] [] f fd) (c_Book : Y.Mak P w K mg base CX0 6 "Book" (He.ga K "Book") (sp_Book_init K) []) : FnG P w K mg base CX0 8 f fd ["self", "rooms", "books"] (sp_Inn_init K) := by
  refine g_def F sc_Inn_init (fun vs H Q E h => ?_) (fun cdv A outer s H vs Q E hr h => ⟨t_Inn_init K, PSs.nox ?_, ?_⟩)
  · obtain ⟨_, _, _, rfl, _⟩ := h
    rfl
  · exact (pss_cons (ps_fld (pv 0) (pv 1) rfl)
  (pss_cons (ps_fld (pv 0) pe_dnewK rfl)
  (pss_cons (ps_for PassesOwn.never rfl (pi_list (pv 2)) (pg_tup (by rfl) (pgs_cons (pg_name (i := 3) sc_Inn_init.nd rfl (Or.inl rfl)) (pgs_cons (pg_name (i := 4) sc_Inn_init.nd rfl (Or.inl rfl)) pgs_nil))) (pss_one (ps_dput (hu_of hr.rm) (pe_fld (pv 0) rfl) (pv 3) (Y.pe_k c_Book hr (by decide) rfl pass0 (pa_cons (pv 4) pa_nil)) rfl)))
  (pss_cons (ps_fld (pv 0) pe_dnewK rfl)
  (pss_cons (ps_fld (pv 0) pe_int rfl)
  (pss_one (ps_fld (pv 0) (pe_lst pa_nil) rfl)))))))
  · obtain ⟨_, _, _, rfl, _⟩ := id h
    exact pure_Inn_init h
theorem oke_NoRule_init (T : Txt K mg) {f : Addr} {fd : FuncData} (F : FunD K "__init__" "NoRule.__init__" (defArgs s_NoRule_init) (defBody s_NoRule_init) (defScope s_NoRule_init) [] [] f fd) : FnOk P w K mg base CX0 1 f fd ["self", "number"] (sp_xinit K "NoRule" "number") := by
  refine F.ok sc_NoRule_init (fun vs H Q E h => ?_) (fun cdv A outer s H vs Q E hr h => ⟨t_xinit K "number" "a thing that is no rule", PSs.nox ?_, ?_⟩)
  · obtain ⟨_, _, rfl, _⟩ := h
    rfl
  · exact (pss_cons (ps_expr (Y.pe_stinit rfl T.g_StayError (pa_cons (pv 0) (pa_cons pe_str pa_nil)))) (pss_one (ps_ost (pv 0) (pv 1))))
  · obtain ⟨_, _, rfl, _⟩ := id h
    exact pure_xinit h
theorem okx_Book_init (T : Txt K mg) {f : Addr} {fd : FuncData} (F : FunD K "__init__" "Book.__init__" (defArgs s_Book_init) (defBody s_Book_init) (defScope s_Book_init) [.non] [] f fd) (c_rule_of : Y.Cal P w K mg base CX0 5 "rule_of" (sp_rule_of K) []) (ce_NoRule : Y.XIn P w K mg base 1 "NoRule" "number") (c_Price_word : Y.Met P w K mg base CX0 1 (He.ga K "Price") "word" (sp_Price_word K) []) (c_Come_word : Y.Met P w K mg base CX0 1 (He.ga K "Come") "word" (sp_Come_word K) []) (c_Go_word : Y.Met P w K mg base CX0 1 (He.ga K "Go") "word" (sp_Go_word K) []) (c_Least_word : Y.Met P w K mg base CX0 1 (He.ga K "Least") "word" (sp_Least_word K) []) (c_Most_word : Y.Met P w K mg base CX0 1 (He.ga K "Most") "word" (sp_Most_word K) []) (c_Deal_word : Y.Met P w K mg base CX0 1 (He.ga K "Deal") "word" (sp_Deal_word K) []) (c_Fee_word : Y.Met P w K mg base CX0 1 (He.ga K "Fee") "word" (sp_Fee_word K) []) : FnG P w K mg base (L2.CX P w) 6 f fd ["self", "rules"] (spx_Book_init K) := by
  refine g_def F sc_Book_init (fun vs H Q E h => ?_) (fun cdv A outer s H vs Q E hr h => ⟨x_Book_init K E, ?_, ?_⟩)
  · obtain ⟨_, _, rfl, _⟩ := h
    rfl
  · exact (pss_cons (ps_set (i := 2) sc_Book_init.nd rfl (Or.inl rfl) (pe_lst pa_nil))
  (pss_cons (ps_if (pt_cmpR op_notN (pv 1) pe_non (nomark _)) (pss_one (ps_set (i := 2) sc_Book_init.nd rfl (Or.inl rfl) (pe_callTy call_list_of (by rfl) T.b_list (by decide +kernel) (pa_cons (pv 1) pa_nil)))) pss_nil)
  (pss_cons (ps_fld (pv 0) (pe_lst pa_nil) rfl)
  (pss_cons (ps_fld (pv 0) pe_dnewK rfl)
  (pss_cons (ps_for (passes_of rfl) rfl (pi_enum (by rfl) T.b_enumerate (pa_cons (pv 2) pa_nil)) (pg_tup (by rfl) (pgs_cons (pg_name (i := 3) sc_Book_init.nd rfl (Or.inl rfl)) (pgs_cons (pg_name (i := 4) sc_Book_init.nd rfl (Or.inl rfl)) pgs_nil))) (pss_cons (ps_set (i := 5) sc_Book_init.nd rfl (Or.inl rfl) (Y.pe_c c_rule_of hr (by decide) rfl pass0 (pa_cons (pv 4) pa_nil)))
  (pss_cons (ps_if (pt_cmpR op_isN (pv 5) pe_non (nomark _)) (pss_one (Y.ps_raiseI ce_NoRule hr (by decide) rfl (takes_of (E := E) rfl rfl rfl rfl) rfl (pv 3))) pss_nil)
  (pss_cons (ps_expr (pe_bm PySem.F.plainAttrs_list PySem.F.slot_list_append PySem.F.type_list_append mt_append (pe_fld (pv 0) rfl) (pa_cons (pv 5) pa_nil)))
  (pss_one (ps_expr (pe_bm PySem.F.plainAttrs_list PySem.F.slot_list_insert PySem.F.type_list_insert mt_insert (pe_dsetd (pe_fld (pv 0) rfl) (Y.pe_rule fun w => match w with | .price => Y.pe_m0 c_Price_word hr (by decide) pass0 (pv 5) | .come => Y.pe_m0 c_Come_word hr (by decide) pass0 (pv 5) | .go => Y.pe_m0 c_Go_word hr (by decide) pass0 (pv 5) | .least => Y.pe_m0 c_Least_word hr (by decide) pass0 (pv 5) | .most => Y.pe_m0 c_Most_word hr (by decide) pass0 (pv 5) | .deal => Y.pe_m0 c_Deal_word hr (by decide) pass0 (pv 5) | .fee => Y.pe_m0 c_Fee_word hr (by decide) pass0 (pv 5)) (pe_lst pa_nil) ⟨by rfl, by rfl, by rfl, by rfl⟩) (pa_cons pe_int (pa_cons (pv 5) pa_nil)))))))))
  (pss_one (ps_if (pt_cmpR op_gt (pe_callB call_len_seq (by rfl) T.b_len (by decide +kernel) (pa_cons (pv 2) pa_nil)) (pe_glob rfl T.c_MOST_RULES.choose_spec.1 T.c_MOST_RULES.choose_spec.2) (nomark _)) (pss_one (Y.ps_raiseB rfl (takes_of (E := E) rfl rfl rfl rfl) T.g_TooMany rfl)) pss_nil)))))))
  · obtain ⟨_, _, rfl, _⟩ := id h
    exact purex_Book_init h
theorem okx_Inn_init (T : Txt K mg) {f : Addr} {fd : FuncData} (F : FunD K "__init__" "Inn.__init__" (defArgs s_Inn_init) (defBody s_Inn_init) (defScope s_Inn_init) [] [] f fd) (cx_Book : Y.Mak P w K mg base (L2.CX P w) 6 "Book" (He.ga K "Book") (spx_Book_init K) []) : FnG P w K mg base (L2.CX P w) 8 f fd ["self", "rooms", "books"] (spx_Inn_init K) := by
  refine g_def F sc_Inn_init (fun vs H Q E h => ?_) (fun cdv A outer s H vs Q E hr h => ⟨x_Inn_init K E, ?_, ?_⟩)
  · obtain ⟨_, _, _, rfl, _⟩ := h
    rfl
  · exact (pss_cons (ps_fld (pv 0) (pv 1) rfl)
  (pss_cons (ps_fld (pv 0) pe_dnewK rfl)
  (pss_cons (ps_for (passes_of rfl) rfl (pi_list (pv 2)) (pg_tup (by rfl) (pgs_cons (pg_name (i := 3) sc_Inn_init.nd rfl (Or.inl rfl)) (pgs_cons (pg_name (i := 4) sc_Inn_init.nd rfl (Or.inl rfl)) pgs_nil))) (pss_one (ps_dput (hu_of hr.rm) (pe_fld (pv 0) rfl) (pv 3) (Y.pe_kx cx_Book hr (by decide) rfl (takes_of (E := E) rfl rfl rfl rfl) (pa_cons (pv 4) pa_nil)) rfl)))
  (pss_cons (ps_fld (pv 0) pe_dnewK rfl)
  (pss_cons (ps_fld (pv 0) pe_int rfl)
  (pss_one (ps_fld (pv 0) (pe_lst pa_nil) rfl)))))))
  · obtain ⟨_, _, _, rfl, _⟩ := id h
    exact purex_Inn_init h
theorem ok_Linn_told (T : Txt K mg) {f : Addr} {fd : FuncData} (F : FunD K "_law_inn_told" "_law_inn_told" (defArgs s_Linn_told) (defBody s_Linn_told) (defScope s_Linn_told) [] [] f fd) (cx_Inn : Y.Mak P w K mg base (L2.CX P w) 8 "Inn" (He.ga K "Inn") (spx_Inn_init K) []) : FnG P w K mg base CX0 10 f fd ["_law_rooms", "_law_pairs"] (sp_Linn_told K) := by
  refine g_def F sc_Linn_told (fun vs H Q E h => ?_) (fun cdv A outer s H vs Q E hr h => ⟨t_Linn_told K, PSs.nox ?_, ?_⟩)
  · obtain ⟨_, _, rfl, _⟩ := h
    rfl
  · exact (pss_cons (Y.ps_tryK (i := 2) (tb := fun W1 => (tDrop (tMakeX (He.ga K "Inn") (spx_Inn_init K) [] W1 (tCons (tVar 0) (tCons (tVar 1) tNil))))) (ts := (tSeq (tIfS (tAnd (tB (tCB (Y.rIsK K) (tCons (tVar 2) (tCons (tC (.ref (He.ga K "NoRule"))) tNil)))) (tNot (tB (tCB (Y.rIsK K) (tCons (tVar 2) (tCons (tC (.ref (He.ga K "TooMany"))) tNil))))))
  (tRet (tTup (tCons (tC (.str "no rule")) (tCons (tXat K (tVar 2) "number") tNil))))
  tNext)
  (tRet (tTup (tCons (tOp (rIxL K) (tLst (tCons (tC (.str "wrong")) (tCons (tC (.str "many")) tNil))) (tCB rInt1 (tCons (tAndV (tCB (Y.rIsK K) (tCons (tVar 2) (tCons (tC (.ref (He.ga K "TooMany"))) tNil))) (tNotV (tCB (Y.rIsK K) (tCons (tVar 2) (tCons (tC (.ref (He.ga K "NoRule"))) tNil))))) tNil))) (tCons (tC .non) tNil)))))) (Wout := (fun _ _ _ _ => False)) rfl rfl rfl sc_Linn_told.nd rfl rfl ⟨rfl, by decide, Or.inl T.g_StayError⟩ takes0 (fun W1 pn1 xe1 tk1 po1 => (pss_one (ps_expr (Y.pe_kx cx_Inn hr (by decide) rfl tk1 (pa_cons (pv 0) (pa_cons (pv 1) pa_nil)))))) (fun a1 pn1 => (pss_cons (ps_if (PW.pt (pw_and (pt_val (pe_callB Y.call_isK (by rfl) T.b_isinstance (by decide +kernel) (pa_cons (pv 2) (pa_cons (pe_glob rfl T.g_NoRule rfl) pa_nil)))) (pw_and1 (pt_not (pt_val (pe_callB Y.call_isK (by rfl) T.b_isinstance (by decide +kernel) (pa_cons (pv 2) (pa_cons (pe_glob rfl T.g_TooMany rfl) pa_nil)))))))) (pss_one (ps_ret (pe_tup (pa_cons pe_str (pa_cons (Y.pe_xat (pv 2)) pa_nil))))) pss_nil)
  (pss_one (ps_ret (pe_tup (pa_cons (pe_ix ix_list (pe_lst (pa_cons pe_str (pa_cons pe_str pa_nil))) (pe_callTy call_int1 (by rfl) T.b_int (by decide +kernel) (pa_cons (pe_and (pe_callB Y.call_isK (by rfl) T.b_isinstance (by decide +kernel) (pa_cons (pv 2) (pa_cons (pe_glob rfl T.g_TooMany rfl) pa_nil))) (pe_one (pe_not (pe_callB Y.call_isK (by rfl) T.b_isinstance (by decide +kernel) (pa_cons (pv 2) (pa_cons (pe_glob rfl T.g_NoRule rfl) pa_nil)))))) pa_nil)) (fun _ _ => rfl)) (pa_cons pe_non pa_nil))))))))
  (pss_one (ps_ret (pe_tup (pa_cons pe_str (pa_cons pe_non pa_nil))))))
  · obtain ⟨_, _, rfl, _⟩ := id h
    exact pure_Linn_told h
theorem ok_Linn_refused (T : Txt K mg) {f : Addr} {fd : FuncData} (F : FunD K "_law_inn_refused" "_law_inn_refused" (defArgs s_Linn_refused) (defBody s_Linn_refused) (defScope s_Linn_refused) [] [] f fd) (c_Ltake : Y.Cal P w K mg base CX0 1 "_law_take" (sp_Ltake K) []) (c_Lsome : Y.Cal P w K mg base CX0 5 "_law_some" (sp_Lsome K) []) (c_Linn_told : Y.Cal P w K mg base CX0 10 "_law_inn_told" (sp_Linn_told K) []) : FnG P w K mg base CX0 11 f fd ["_law_row", "_law_names_here"] (sp_Linn_refused K) := by
  refine g_def F sc_Linn_refused (fun vs H Q E h => ?_) (fun cdv A outer s H vs Q E hr h => ⟨t_Linn_refused K, PSs.nox ?_, ?_⟩)
  · obtain ⟨_, _, rfl, _⟩ := h
    rfl
  · exact (pss_cons (ps_set (i := 2) sc_Linn_refused.nd rfl (Or.inl rfl) (pe_lst pa_nil))
  (pss_cons (ps_set (i := 3) sc_Linn_refused.nd rfl (Or.inl rfl) (pe_tup (pa_cons pe_str (pa_cons pe_non pa_nil))))
  (pss_cons (ps_for PassesOwn.never rfl (pi_list (pe_slice sl_list (pv 1) po_none (po_some (pe_op op_add pe_int (Y.pe_c c_Ltake hr (by decide) rfl pass0 (pa_cons (pv 0) (pa_cons pe_int pa_nil))))))) (pg_name (i := 4) sc_Linn_refused.nd rfl (Or.inl rfl)) (pss_cons (ps_set (i := 5) sc_Linn_refused.nd rfl (Or.inl rfl) (Y.pe_c c_Lsome hr (by decide) rfl pass0 (pa_cons (pv 0) (pa_cons pe_int pa_nil))))
  (pss_cons (ps_set (i := 6) sc_Linn_refused.nd rfl (Or.inl rfl) (pv 3))
  (pss_cons (ps_set (i := 7) sc_Linn_refused.nd rfl (Or.inl rfl) (Y.pe_c c_Ltake hr (by decide) rfl pass0 (pa_cons (pv 0) (pa_cons pe_int pa_nil))))
  (pss_cons (ps_if (pt_cmpR op_eq (pv 7) pe_int (nomark _)) (pss_cons (ps_set (i := 6) sc_Linn_refused.nd rfl (Or.inl rfl) (pe_tup (pa_cons pe_str (pa_cons (Y.pe_c c_Ltake hr (by decide) rfl pass0 (pa_cons (pv 0) (pa_cons (pe_op op_add (pe_callB call_len_seq (by rfl) T.b_len (by decide +kernel) (pa_cons (pv 5) pa_nil)) pe_int) pa_nil))) pa_nil))))
  (pss_one (ps_expr (pe_bm PySem.F.plainAttrs_list PySem.F.slot_list_insert PySem.F.type_list_insert mt_insert (pv 5) (pa_cons (pe_ix ix_tup (pv 6) pe_int (fun _ _ => rfl)) (pa_cons (pe_ix ix_list (pe_lst (pa_cons pe_non (pa_cons (pe_tup (pa_cons pe_str (pa_cons pe_int (pa_cons pe_int (pa_cons pe_int pa_nil))))) (pa_cons (pe_lst (pa_cons pe_str (pa_cons pe_int (pa_cons pe_int (pa_cons pe_int pa_nil))))) pa_nil)))) (Y.pe_c c_Ltake hr (by decide) rfl pass0 (pa_cons (pv 0) (pa_cons pe_int pa_nil))) (fun _ _ => rfl)) pa_nil)))))) (pss_one (ps_if (pt_cmpR op_lt (pv 7) pe_int (nomark _)) (pss_cons (ps_set (i := 6) sc_Linn_refused.nd rfl (Or.inl rfl) (pe_tup (pa_cons pe_str (pa_cons pe_non pa_nil))))
  (pss_one (ps_set (i := 5) sc_Linn_refused.nd rfl (Or.inl rfl) (pe_op op_cat (pv 5) (pe_op op_rep (pe_lst (pa_cons (pe_tup (pa_cons pe_str (pa_cons pe_int (pa_cons pe_int (pa_cons pe_int pa_nil))))) pa_nil)) (pe_op op_sub pe_int (pe_callB call_len_seq (by rfl) T.b_len (by decide +kernel) (pa_cons (pv 5) pa_nil)))))))) (pss_one (ps_if (pt_cmpR op_eq (pv 7) pe_int (nomark _)) (pss_cons (ps_set (i := 6) sc_Linn_refused.nd rfl (Or.inl rfl) (pe_tup (pa_cons pe_str (pa_cons (pe_op op_add pe_int (pe_callB call_len_seq (by rfl) T.b_len (by decide +kernel) (pa_cons (pv 5) pa_nil))) pa_nil))))
  (pss_one (ps_set (i := 5) sc_Linn_refused.nd rfl (Or.inl rfl) (pe_op op_cat (pe_op op_cat (pv 5) (pe_op op_rep (pe_lst (pa_cons (pe_tup (pa_cons pe_str (pa_cons pe_int (pa_cons pe_int (pa_cons pe_int pa_nil))))) pa_nil)) pe_int)) (pe_lst (pa_cons pe_non pa_nil)))))) pss_nil)))))
  (pss_cons (ps_expr (pe_bm PySem.F.plainAttrs_list PySem.F.slot_list_append PySem.F.type_list_append mt_append (pv 2) (pa_cons (pe_tup (pa_cons (pv 4) (pa_cons (pv 5) pa_nil))) pa_nil)))
  (pss_one (ps_if (pt_cmpR (op_eqD hr.units) (pv 3) (pe_tup (pa_cons pe_str (pa_cons pe_non pa_nil))) (nomark _)) (pss_one (ps_set (i := 3) sc_Linn_refused.nd rfl (Or.inl rfl) (pv 6))) pss_nil))))))))
  (pss_one (ps_ret (pe_cmpR (op_eqD hr.units) (Y.pe_c c_Linn_told hr (by decide) rfl pass0 (pa_cons (pe_op op_add pe_int (Y.pe_c c_Ltake hr (by decide) rfl pass0 (pa_cons (pv 0) (pa_cons pe_int pa_nil)))) (pa_cons (pv 2) pa_nil))) (pv 3) (nomark _)))))))
  · obtain ⟨_, _, rfl, _⟩ := id h
    exact pure_Linn_refused h
theorem ok_dealt (T : Txt K mg) {f : Addr} {fd : FuncData} (F : FunD K "dealt" "dealt" (defArgs s_dealt) (defBody s_dealt) (defScope s_dealt) [] [] f fd)  : FnG P w K mg base CX0 1 f fd ["stays"] (sp_dealt K) := by
  refine g_def F sc_dealt (fun vs H Q E h => ?_) (fun cdv A outer s H vs Q E hr h => ⟨t_dealt K, PSs.nox ?_, ?_⟩)
  · obtain ⟨_, rfl, _⟩ := h
    rfl
  · exact (pss_cons (ps_set (i := 1) sc_dealt.nd rfl (Or.inl rfl) (pe_lst pa_nil))
  (pss_cons (ps_setLc (i := 3) (own := [("stay", 2)]) (g := (gName 2)) (tt := tYes) rfl sc_dealt.nd rfl rfl (sw_true rfl rfl rfl (by decide +kernel)) (pi_list (pv 0)) (blkOk_by (own := [("stay", 2)]) (N := ["stays", "until", "stay", "found", "at", "room"]) (sc := defScope s_dealt) (by decide +kernel)) (fun _ _ _ _ _ => (pg_name (i := 2) sc_dealt.nd rfl (Or.inl rfl))) (fun _ _ _ _ _ => pts_nil) (fun _ _ _ _ _ => pe_int))
  (pss_cons (ps_for PassesOwn.never rfl (pi_list (pe_callB (Y.cr_sortJ hr) (by rfl) T.b_sorted (by decide +kernel) (pa_cons (pe_lc (own := [("at", 4), ("stay", 2)]) (g := (gTup K 2 (gCons (gName 4) (gCons (gName 2) gNil)))) (tt := tYes) rfl sc_dealt.nd (pi_enum (by rfl) T.b_enumerate (pa_cons (pv 0) pa_nil)) (blkOk_by (own := [("at", 4), ("stay", 2)]) (N := ["stays", "until", "stay", "found", "at", "room"]) (sc := defScope s_dealt) (by decide +kernel)) (fun _ _ _ _ _ => (pg_tup (by rfl) (pgs_cons (pg_name (i := 4) sc_dealt.nd rfl (Or.inl rfl)) (pgs_cons (pg_name (i := 2) sc_dealt.nd rfl (Or.inl rfl)) pgs_nil)))) (fun _ _ _ _ _ => pts_nil) (fun _ _ _ _ _ => (pe_tup (pa_cons (pv 2) (pa_cons (pv 4) pa_nil))))) pa_nil))) (pg_tup (by rfl) (pgs_cons (pg_name (i := 2) sc_dealt.nd rfl (Or.inl rfl)) (pgs_cons (pg_name (i := 4) sc_dealt.nd rfl (Or.inl rfl)) pgs_nil))) (pss_cons (ps_set (i := 5) sc_dealt.nd rfl (Or.inl rfl) pe_int)
  (pss_cons (ps_while PassesOwn.never (PW.pt (pw_and (pt_cmpR op_lt (pv 5) (pe_callB call_len_seq (by rfl) T.b_len (by decide +kernel) (pa_cons (pv 1) pa_nil)) (nomark _)) (pw_and1 (pt_cmpR op_gt (pe_ix ix_list (pv 1) (pv 5) (fun _ _ => rfl)) (pe_ix ix_tup (pv 2) pe_int (fun _ _ => rfl)) (nomark _))))) (pss_one (ps_set (i := 5) sc_dealt.nd rfl (Or.inl rfl) (pe_op op_add (pv 5) pe_int))))
  (pss_cons (ps_if (pt_cmpR op_eq (pv 5) (pe_callB call_len_seq (by rfl) T.b_len (by decide +kernel) (pa_cons (pv 1) pa_nil)) (nomark _)) (pss_one (ps_expr (pe_bm PySem.F.plainAttrs_list PySem.F.slot_list_append PySem.F.type_list_append mt_append (pv 1) (pa_cons pe_int pa_nil)))) pss_nil)
  (pss_cons (ps_asg (pe_ix ix_tup (pv 2) pe_int (fun _ _ => rfl)) (pg_sub (pv 1) (pv 5) set_list))
  (pss_one (ps_asg (pv 5) (pg_sub (pv 3) (pv 4) set_list))))))))
  (pss_one (ps_ret (pv 3))))))
  · obtain ⟨_, rfl, _⟩ := id h
    exact pure_dealt h
theorem ok_Inn_rooms (T : Txt K mg) {f : Addr} {fd : FuncData} (F : FunD K "rooms" "Inn.rooms" (defArgs s_Inn_rooms) (defBody s_Inn_rooms) (defScope s_Inn_rooms) [] [] f fd) (c_dealt : Y.Cal P w K mg base CX0 1 "dealt" (sp_dealt K) []) : FnG P w K mg base CX0 2 f fd ["self"] (sp_Inn_rooms K) := by
  refine g_def F sc_Inn_rooms (fun vs H Q E h => ?_) (fun cdv A outer s H vs Q E hr h => ⟨t_Inn_rooms K, PSs.nox ?_, ?_⟩)
  · obtain ⟨_, rfl, _⟩ := h
    rfl
  · exact (pss_cons (ps_set (i := 1) sc_Inn_rooms.nd rfl (Or.inl rfl) (pe_callB (Y.cr_sortDI rfl) (by rfl) T.b_sorted (by decide +kernel) (pa_cons (pe_fld (pv 0) rfl) pa_nil)))
  (pss_one (ps_ret (Y.pe_listZip0 (by rfl) (by rfl) T.b_list (by rfl) T.b_zip (pa_cons (pv 1) (pa_cons (Y.pe_c c_dealt hr (by decide) rfl pass0 (pa_cons (pe_lc (own := [("number", 2)]) (g := (gName 2)) (tt := tYes) rfl sc_Inn_rooms.nd (pi_list (pv 1)) (blkOk_by (own := [("number", 2)]) (N := ["self", "numbers", "number"]) (sc := defScope s_Inn_rooms) (by decide +kernel)) (fun _ _ _ _ _ => (pg_name (i := 2) sc_Inn_rooms.nd rfl (Or.inl rfl))) (fun _ _ _ _ _ => pts_nil) (fun _ _ _ _ _ => (pe_ix ix_tup (pe_dget (hu_of hr.rm) (pe_fld (pv 0) rfl) (pv 2) (fun _ _ => rfl)) pe_int (fun _ _ => rfl)))) pa_nil)) pa_nil))))))
  · obtain ⟨_, rfl, _⟩ := id h
    exact pure_Inn_rooms h
theorem ok_nights_of (T : Txt K mg) {f : Addr} {fd : FuncData} (F : FunD K "nights_of" "nights_of" (defArgs s_nights_of) (defBody s_nights_of) (defScope s_nights_of) [] [] f fd)  : FnG P w K mg base CX0 1 f fd ["stay"] (sp_nights_of K) := by
  refine g_def F sc_nights_of (fun vs H Q E h => ?_) (fun cdv A outer s H vs Q E hr h => ⟨t_nights_of K, PSs.nox ?_, ?_⟩)
  · obtain ⟨_, rfl, _⟩ := h
    rfl
  · exact (pss_one (ps_ret (pe_listRg rfl rfl T.b_list (prg_2 rfl T.b_range (pe_ix ix_tup (pv 0) pe_int (fun _ _ => rfl)) (pe_ix ix_tup (pv 0) pe_int (fun _ _ => rfl))))))
  · obtain ⟨_, rfl, _⟩ := id h
    exact pure_nights_of h
theorem ok_Inn_full (T : Txt K mg) {f : Addr} {fd : FuncData} (F : FunD K "full" "Inn.full" (defArgs s_Inn_full) (defBody s_Inn_full) (defScope s_Inn_full) [] [] f fd) (c_nights_of : Y.Cal P w K mg base CX0 1 "nights_of" (sp_nights_of K) []) : FnG P w K mg base CX0 2 f fd ["self"] (sp_Inn_full K) := by
  refine g_def F sc_Inn_full (fun vs H Q E h => ?_) (fun cdv A outer s H vs Q E hr h => ⟨t_Inn_full K, PSs.nox ?_, ?_⟩)
  · obtain ⟨_, rfl, _⟩ := h
    rfl
  · exact (pss_cons (ps_set (i := 1) sc_Inn_full.nd rfl (Or.inl rfl) pe_dnewK)
  (pss_cons (ps_lock (ps_for PassesOwn.never rfl (pi_values (pe_fld (pv 0) rfl)) (pg_tup (by rfl) (pgs_cons (pg_name (i := 2) sc_Inn_full.nd rfl (Or.inl rfl)) (pgs_cons (pg_name (i := 3) sc_Inn_full.nd rfl (Or.inl rfl)) (pgs_cons (pg_name (i := 4) sc_Inn_full.nd rfl (Or.inl rfl)) pgs_nil)))) (pss_one (ps_for PassesOwn.never rfl (pi_list (Y.pe_c c_nights_of hr (by decide) rfl pass0 (pa_cons (pv 2) pa_nil))) (pg_name (i := 5) sc_Inn_full.nd rfl (Or.inl rfl)) (pss_one (ps_dput (hu_of hr.rm) (pv 1) (pv 5) (pe_op op_add (pe_dget2 (hu_of hr.rm) (pv 1) (pv 5) pe_int ⟨by rfl, by rfl, by rfl, by rfl⟩) pe_int) rfl))))))
  (pss_one (ps_ret (pe_callB cr_sortedI (by rfl) T.b_sorted (by decide +kernel) (pa_cons (pe_lock (pe_lc (own := [("night", 5), ("many", 6)]) (g := (gTup K 2 (gCons (gName 5) (gCons (gName 6) gNil)))) (tt := (tTest (tOp rEq (tVar 6) (tFld K (tVar 0) "many")))) rfl sc_Inn_full.nd (pi_items (pv 1)) (blkOk_by (own := [("night", 5), ("many", 6)]) (N := ["self", "stays", "stay", "coins", "cut", "night", "many"]) (sc := defScope s_Inn_full) (by decide +kernel)) (fun _ _ _ _ _ => (pg_tup (by rfl) (pgs_cons (pg_name (i := 5) sc_Inn_full.nd rfl (Or.inl rfl)) (pgs_cons (pg_name (i := 6) sc_Inn_full.nd rfl (Or.inl rfl)) pgs_nil)))) (fun _ _ _ _ _ => (pts_one (pt_cmpR op_eq (pv 6) (pe_fld (pv 0) rfl) (nomark _)))) (fun _ _ _ _ _ => (pv 5)))) pa_nil))))))
  · obtain ⟨_, rfl, _⟩ := id h
    exact pure_Inn_full h
theorem ok_Inn_standing (T : Txt K mg) {f : Addr} {fd : FuncData} (F : FunD K "standing" "Inn.standing" (defArgs s_Inn_standing) (defBody s_Inn_standing) (defScope s_Inn_standing) [] [] f fd)  : FnG P w K mg base CX0 1 f fd ["self"] (sp_Inn_standing K) := by
  refine g_def F sc_Inn_standing (fun vs H Q E h => ?_) (fun cdv A outer s H vs Q E hr h => ⟨t_Inn_standing K, PSs.nox ?_, ?_⟩)
  · obtain ⟨_, rfl, _⟩ := h
    rfl
  · exact (pss_one (ps_ret (pe_lc (own := [("number", 1), ("stay", 2), ("coins", 3), ("cut", 4)]) (g := (gTup K 2 (gCons (gName 1) (gCons (gTup K 3 (gCons (gName 2) (gCons (gName 3) (gCons (gName 4) gNil)))) gNil)))) (tt := tYes) rfl sc_Inn_standing.nd (pi_list (Y.pe_sortItems0 (by rfl) (by rfl) T.b_sorted (pe_fld (pv 0) rfl))) (blkOk_by (own := [("number", 1), ("stay", 2), ("coins", 3), ("cut", 4)]) (N := ["self", "number", "stay", "coins", "cut"]) (sc := defScope s_Inn_standing) (by decide +kernel)) (fun _ _ _ _ _ => (pg_tup (by rfl) (pgs_cons (pg_name (i := 1) sc_Inn_standing.nd rfl (Or.inl rfl)) (pgs_cons (pg_tup (by rfl) (pgs_cons (pg_name (i := 2) sc_Inn_standing.nd rfl (Or.inl rfl)) (pgs_cons (pg_name (i := 3) sc_Inn_standing.nd rfl (Or.inl rfl)) (pgs_cons (pg_name (i := 4) sc_Inn_standing.nd rfl (Or.inl rfl)) pgs_nil)))) pgs_nil)))) (fun _ _ _ _ _ => pts_nil) (fun _ _ _ _ _ => (pe_tup (pa_cons (pv 1) (pa_cons (pv 2) (pa_cons (pv 3) (pa_cons (pe_callTy call_list_of (by rfl) T.b_list (by decide +kernel) (pa_cons (pv 4) pa_nil)) pa_nil)))))))))
  · obtain ⟨_, rfl, _⟩ := id h
    exact pure_Inn_standing h
theorem ok_Inn_need_name (T : Txt K mg) {f : Addr} {fd : FuncData} (F : FunD K "need_name" "Inn.need_name" (defArgs s_Inn_need_name) (defBody s_Inn_need_name) (defScope s_Inn_need_name) [] [] f fd)  : FnG P w K mg base CX0 1 f fd ["self", "name"] (sp_Inn_need_name K) := by
  refine g_def F sc_Inn_need_name (fun vs H Q E h => ?_) (fun cdv A outer s H vs Q E hr h => ⟨t_Inn_need_name K, PSs.nox ?_, ?_⟩)
  · obtain ⟨_, _, rfl, _⟩ := h
    rfl
  · exact (pss_one (ps_if (pt_cmp (pc_dnotin (hu_of hr.rm) (pv 1) (pe_fld (pv 0) rfl))) (pss_one Y.ps_never) pss_nil))
  · obtain ⟨_, _, rfl, _⟩ := id h
    exact pure_Inn_need_name h
theorem ok_Rule_told (T : Txt K mg) {f : Addr} {fd : FuncData} (F : FunD K "told" "Rule.told" (defArgs s_Rule_told) (defBody s_Rule_told) (defScope s_Rule_told) [] [] f fd) (c_Price_word : Y.Met P w K mg base CX0 1 (He.ga K "Price") "word" (sp_Price_word K) []) (c_Come_word : Y.Met P w K mg base CX0 1 (He.ga K "Come") "word" (sp_Come_word K) []) (c_Go_word : Y.Met P w K mg base CX0 1 (He.ga K "Go") "word" (sp_Go_word K) []) (c_Least_word : Y.Met P w K mg base CX0 1 (He.ga K "Least") "word" (sp_Least_word K) []) (c_Most_word : Y.Met P w K mg base CX0 1 (He.ga K "Most") "word" (sp_Most_word K) []) (c_Deal_word : Y.Met P w K mg base CX0 1 (He.ga K "Deal") "word" (sp_Deal_word K) []) (c_Fee_word : Y.Met P w K mg base CX0 1 (He.ga K "Fee") "word" (sp_Fee_word K) []) : FnG P w K mg base CX0 2 f fd ["self"] (sp_Rule_told K) := by
  refine g_def F sc_Rule_told (fun vs H Q E h => ?_) (fun cdv A outer s H vs Q E hr h => ⟨t_Rule_told K, PSs.nox ?_, ?_⟩)
  · obtain ⟨_, rfl, _⟩ := h
    rfl
  · exact (pss_one (ps_ret (pe_tup (pa_cons (Y.pe_rule fun w => match w with | .price => Y.pe_m0 c_Price_word hr (by decide) pass0 (pv 0) | .come => Y.pe_m0 c_Come_word hr (by decide) pass0 (pv 0) | .go => Y.pe_m0 c_Go_word hr (by decide) pass0 (pv 0) | .least => Y.pe_m0 c_Least_word hr (by decide) pass0 (pv 0) | .most => Y.pe_m0 c_Most_word hr (by decide) pass0 (pv 0) | .deal => Y.pe_m0 c_Deal_word hr (by decide) pass0 (pv 0) | .fee => Y.pe_m0 c_Fee_word hr (by decide) pass0 (pv 0)) (pa_cons (pe_fld (pv 0) rfl) (pa_cons (pe_fld (pv 0) rfl) (pa_cons (pe_fld (pv 0) rfl) pa_nil)))))))
  · obtain ⟨_, rfl, _⟩ := id h
    exact pure_Rule_told h
theorem ok_Book_rules (T : Txt K mg) {f : Addr} {fd : FuncData} (F : FunD K "rules" "Book.rules" (defArgs s_Book_rules) (defBody s_Book_rules) (defScope s_Book_rules) [] [] f fd) (c_Price_told : Y.Met P w K mg base CX0 2 (He.ga K "Price") "told" (sp_Rule_told K) []) (c_Come_told : Y.Met P w K mg base CX0 2 (He.ga K "Come") "told" (sp_Rule_told K) []) (c_Go_told : Y.Met P w K mg base CX0 2 (He.ga K "Go") "told" (sp_Rule_told K) []) (c_Least_told : Y.Met P w K mg base CX0 2 (He.ga K "Least") "told" (sp_Rule_told K) []) (c_Most_told : Y.Met P w K mg base CX0 2 (He.ga K "Most") "told" (sp_Rule_told K) []) (c_Deal_told : Y.Met P w K mg base CX0 2 (He.ga K "Deal") "told" (sp_Rule_told K) []) (c_Fee_told : Y.Met P w K mg base CX0 2 (He.ga K "Fee") "told" (sp_Rule_told K) []) : FnG P w K mg base CX0 3 f fd ["self"] (sp_Book_rules K) := by
  refine g_def F sc_Book_rules (fun vs H Q E h => ?_) (fun cdv A outer s H vs Q E hr h => ⟨t_Book_rules K, PSs.nox ?_, ?_⟩)
  · obtain ⟨_, rfl, _⟩ := h
    rfl
  · exact (pss_one (ps_ret (pe_lc (own := [("rule", 1)]) (g := (gName 1)) (tt := tYes) rfl sc_Book_rules.nd (pi_list (pe_fld (pv 0) rfl)) (blkOk_by (own := [("rule", 1)]) (N := ["self", "rule"]) (sc := defScope s_Book_rules) (by decide +kernel)) (fun _ _ _ _ _ => (pg_name (i := 1) sc_Book_rules.nd rfl (Or.inl rfl))) (fun _ _ _ _ _ => pts_nil) (fun _ _ _ _ _ => (Y.pe_rule fun w => match w with | .price => Y.pe_m0 c_Price_told hr (by decide) pass0 (pv 1) | .come => Y.pe_m0 c_Come_told hr (by decide) pass0 (pv 1) | .go => Y.pe_m0 c_Go_told hr (by decide) pass0 (pv 1) | .least => Y.pe_m0 c_Least_told hr (by decide) pass0 (pv 1) | .most => Y.pe_m0 c_Most_told hr (by decide) pass0 (pv 1) | .deal => Y.pe_m0 c_Deal_told hr (by decide) pass0 (pv 1) | .fee => Y.pe_m0 c_Fee_told hr (by decide) pass0 (pv 1))))))
  · obtain ⟨_, rfl, _⟩ := id h
    exact pure_Book_rules h
theorem ok_Inn_rules_of (T : Txt K mg) {f : Addr} {fd : FuncData} (F : FunD K "rules_of" "Inn.rules_of" (defArgs s_Inn_rules_of) (defBody s_Inn_rules_of) (defScope s_Inn_rules_of) [] [] f fd) (c_Inn_need_name : Y.Met P w K mg base CX0 1 (He.ga K "Inn") "need_name" (sp_Inn_need_name K) []) (c_Book_rules : Y.Met P w K mg base CX0 3 (He.ga K "Book") "rules" (sp_Book_rules K) []) : FnG P w K mg base CX0 4 f fd ["self", "name"] (sp_Inn_rules_of K) := by
  refine g_def F sc_Inn_rules_of (fun vs H Q E h => ?_) (fun cdv A outer s H vs Q E hr h => ⟨t_Inn_rules_of K, PSs.nox ?_, ?_⟩)
  · obtain ⟨_, _, rfl, _⟩ := h
    rfl
  · exact (pss_cons (ps_expr (Y.pe_m c_Inn_need_name hr (by decide) pass0 (pv 0) (pa_cons (pv 1) pa_nil)))
  (pss_one (ps_ret (Y.pe_m0 c_Book_rules hr (by decide) pass0 (pe_dget (hu_of hr.rm) (pe_fld (pv 0) rfl) (pv 1) (fun _ _ => rfl))))))
  · obtain ⟨_, _, rfl, _⟩ := id h
    exact pure_Inn_rules_of h
theorem ok_Inn_keep (T : Txt K mg) {f : Addr} {fd : FuncData} (F : FunD K "keep" "Inn.keep" (defArgs s_Inn_keep) (defBody s_Inn_keep) (defScope s_Inn_keep) [] [] f fd)  : FnG P w K mg base CX0 1 f fd ["self"] (sp_Inn_keep K) := by
  refine g_def F sc_Inn_keep (fun vs H Q E h => ?_) (fun cdv A outer s H vs Q E hr h => ⟨t_Inn_keep K, PSs.nox ?_, ?_⟩)
  · obtain ⟨_, rfl, _⟩ := h
    rfl
  · exact (pss_one (ps_expr (pe_bm PySem.F.plainAttrs_list PySem.F.slot_list_append PySem.F.type_list_append mt_append (pe_fld (pv 0) rfl) (pa_cons (pe_tup (pa_cons (pe_callTy call_dictD (by rfl) T.b_dict (by decide +kernel) (pa_cons (pe_fld (pv 0) rfl) pa_nil)) (pa_cons (pe_callTy call_dictD (by rfl) T.b_dict (by decide +kernel) (pa_cons (pe_fld (pv 0) rfl) pa_nil)) (pa_cons (pe_fld (pv 0) rfl) pa_nil)))) pa_nil))))
  · obtain ⟨_, rfl, _⟩ := id h
    exact pure_Inn_keep h
theorem okx_Inn_give_back (T : Txt K mg) {f : Addr} {fd : FuncData} (F : FunD K "give_back" "Inn.give_back" (defArgs s_Inn_give_back) (defBody s_Inn_give_back) (defScope s_Inn_give_back) [] [] f fd) (c_is_whole : Y.Cal P w K mg base CX0 1 "is_whole" (sp_is_whole K) []) (c_Inn_keep : Y.Met P w K mg base CX0 1 (He.ga K "Inn") "keep" (sp_Inn_keep K) []) : FnG P w K mg base (L2.CX P w) 2 f fd ["self", "number"] (spx_Inn_give_back K) := by
  refine g_def F sc_Inn_give_back (fun vs H Q E h => ?_) (fun cdv A outer s H vs Q E hr h => ⟨x_Inn_give_back K E, ?_, ?_⟩)
  · obtain ⟨_, _, rfl, _⟩ := h
    rfl
  · exact (pss_cons (ps_if (PW.pt (pw_or (pt_not (pt_val (Y.pe_c c_is_whole hr (by decide) rfl pass0 (pa_cons (pv 1) pa_nil)))) (pw_or1 (pt_cmp (pc_dnotin (hu_of hr.rm) (pv 1) (pe_fld (pv 0) rfl)))))) (pss_one (Y.ps_raiseB rfl (takes_of (E := E) rfl rfl rfl rfl) T.g_NoTaken rfl)) pss_nil)
  (pss_cons (ps_expr (Y.pe_m0 c_Inn_keep hr (by decide) pass0 (pv 0)))
  (pss_one (ps_expr (pe_dpop1 (pe_fld (pv 0) rfl) (pv 1) ⟨by rfl, by rfl, by rfl, by rfl⟩)))))
  · obtain ⟨_, _, rfl, _⟩ := id h
    exact purex_Inn_give_back h
theorem okx_Inn_need_name (T : Txt K mg) {f : Addr} {fd : FuncData} (F : FunD K "need_name" "Inn.need_name" (defArgs s_Inn_need_name) (defBody s_Inn_need_name) (defScope s_Inn_need_name) [] [] f fd)  : FnG P w K mg base (L2.CX P w) 1 f fd ["self", "name"] (spx_Inn_need_name K) := by
  refine g_def F sc_Inn_need_name (fun vs H Q E h => ?_) (fun cdv A outer s H vs Q E hr h => ⟨x_Inn_need_name K E, ?_, ?_⟩)
  · obtain ⟨_, _, rfl, _⟩ := h
    rfl
  · exact (pss_one (ps_if (pt_cmp (pc_dnotin (hu_of hr.rm) (pv 1) (pe_fld (pv 0) rfl))) (pss_one (Y.ps_raiseB rfl (takes_of (E := E) rfl rfl rfl rfl) T.g_NoName rfl)) pss_nil))
  · obtain ⟨_, _, rfl, _⟩ := id h
    exact purex_Inn_need_name h
theorem okx_laid (T : Txt K mg) {f : Addr} {fd : FuncData} (F : FunD K "laid" "laid" (defArgs s_laid) (defBody s_laid) (defScope s_laid) [] [] f fd) (c_Book_rules : Y.Met P w K mg base CX0 3 (He.ga K "Book") "rules" (sp_Book_rules K) []) (cx_Book : Y.Mak P w K mg base (L2.CX P w) 6 "Book" (He.ga K "Book") (spx_Book_init K) []) : FnG P w K mg base (L2.CX P w) 8 f fd ["elder", "newer"] (spx_laid K) := by
  refine g_def F sc_laid (fun vs H Q E h => ?_) (fun cdv A outer s H vs Q E hr h => ⟨x_laid K E, ?_, ?_⟩)
  · obtain ⟨_, _, rfl, _⟩ := h
    rfl
  · exact (pss_one (ps_ret (Y.pe_kx cx_Book hr (by decide) rfl (takes_of (E := E) rfl rfl rfl rfl) (pa_cons (pe_op op_cat (Y.pe_m0 c_Book_rules hr (by decide) pass0 (pv 0)) (Y.pe_m0 c_Book_rules hr (by decide) pass0 (pv 1))) pa_nil))))
  · obtain ⟨_, _, rfl, _⟩ := id h
    exact purex_laid h
theorem okx_Inn_lay (T : Txt K mg) {f : Addr} {fd : FuncData} (F : FunD K "lay" "Inn.lay" (defArgs s_Inn_lay) (defBody s_Inn_lay) (defScope s_Inn_lay) [] [] f fd) (cx_Inn_need_name : Y.Met P w K mg base (L2.CX P w) 1 (He.ga K "Inn") "need_name" (spx_Inn_need_name K) []) (cx_laid : Y.Cal P w K mg base (L2.CX P w) 8 "laid" (spx_laid K) []) (cx_Book : Y.Mak P w K mg base (L2.CX P w) 6 "Book" (He.ga K "Book") (spx_Book_init K) []) (c_Inn_keep : Y.Met P w K mg base CX0 1 (He.ga K "Inn") "keep" (sp_Inn_keep K) []) : FnG P w K mg base (L2.CX P w) 9 f fd ["self", "name", "rules"] (spx_Inn_lay K) := by
  refine g_def F sc_Inn_lay (fun vs H Q E h => ?_) (fun cdv A outer s H vs Q E hr h => ⟨x_Inn_lay K E, ?_, ?_⟩)
  · obtain ⟨_, _, _, rfl, _⟩ := h
    rfl
  · exact (pss_cons (ps_expr (Y.pe_mx cx_Inn_need_name hr (by decide) (takes_of (E := E) rfl rfl rfl rfl) (pv 0) (pa_cons (pv 1) pa_nil)))
  (pss_cons (ps_set (i := 3) sc_Inn_lay.nd rfl (Or.inl rfl) (Y.pe_cx cx_laid hr (by decide) rfl (takes_of (E := E) rfl rfl rfl rfl) (pa_cons (pe_dget (hu_of hr.rm) (pe_fld (pv 0) rfl) (pv 1) (fun _ _ => rfl)) (pa_cons (Y.pe_kx cx_Book hr (by decide) rfl (takes_of (E := E) rfl rfl rfl rfl) (pa_cons (pv 2) pa_nil)) pa_nil))))
  (pss_cons (ps_expr (Y.pe_m0 c_Inn_keep hr (by decide) pass0 (pv 0)))
  (pss_one (ps_dput (hu_of hr.rm) (pe_fld (pv 0) rfl) (pv 1) (pv 3) rfl)))))
  · obtain ⟨_, _, _, rfl, _⟩ := id h
    exact purex_Inn_lay h
theorem okx_Inn_tidy (T : Txt K mg) {f : Addr} {fd : FuncData} (F : FunD K "tidy" "Inn.tidy" (defArgs s_Inn_tidy) (defBody s_Inn_tidy) (defScope s_Inn_tidy) [] [] f fd) (cx_Inn_need_name : Y.Met P w K mg base (L2.CX P w) 1 (He.ga K "Inn") "need_name" (spx_Inn_need_name K) []) (c_Inn_keep : Y.Met P w K mg base CX0 1 (He.ga K "Inn") "keep" (sp_Inn_keep K) []) : FnG P w K mg base (L2.CX P w) 2 f fd ["self", "name"] (spx_Inn_tidy K) := by
  refine g_def F sc_Inn_tidy (fun vs H Q E h => ?_) (fun cdv A outer s H vs Q E hr h => ⟨x_Inn_tidy K E, ?_, ?_⟩)
  · obtain ⟨_, _, rfl, _⟩ := h
    rfl
  · exact (pss_cons (ps_expr (Y.pe_mx cx_Inn_need_name hr (by decide) (takes_of (E := E) rfl rfl rfl rfl) (pv 0) (pa_cons (pv 1) pa_nil)))
  (pss_cons (ps_set (i := 2) sc_Inn_tidy.nd rfl (Or.inl rfl) Y.pe_neverE)
  (pss_cons (ps_expr (Y.pe_m0 c_Inn_keep hr (by decide) pass0 (pv 0)))
  (pss_one (ps_dput (hu_of hr.rm) (pe_fld (pv 0) rfl) (pv 1) (pv 2) rfl)))))
  · obtain ⟨_, _, rfl, _⟩ := id h
    exact purex_Inn_tidy h
theorem okx_Inn_undo (T : Txt K mg) {f : Addr} {fd : FuncData} (F : FunD K "undo" "Inn.undo" (defArgs s_Inn_undo) (defBody s_Inn_undo) (defScope s_Inn_undo) [] [] f fd)  : FnG P w K mg base (L2.CX P w) 1 f fd ["self"] (spx_Inn_undo K) := by
  refine g_def F sc_Inn_undo (fun vs H Q E h => ?_) (fun cdv A outer s H vs Q E hr h => ⟨x_Inn_undo K E, ?_, ?_⟩)
  · obtain ⟨_, rfl, _⟩ := h
    rfl
  · exact (pss_cons (ps_if (pt_cmpR (Y.op_eqE hr.units) (pe_fld (pv 0) rfl) (pe_lst pa_nil) (nomark _)) (pss_one (Y.ps_raiseB rfl (takes_of (E := E) rfl rfl rfl rfl) T.g_NoDeed rfl)) pss_nil)
  (pss_one (ps_asg (pe_bm0 PySem.F.plainAttrs_list PySem.F.slot_list_pop PySem.F.type_list_pop mt_pop (pe_fld (pv 0) rfl)) (pg_tup (by rfl) (pgs_cons (Y.pg_fld (pv 0)) (pgs_cons (Y.pg_fld (pv 0)) (pgs_cons (Y.pg_fld (pv 0)) pgs_nil)))))))
  · obtain ⟨_, rfl, _⟩ := id h
    exact purex_Inn_undo h
theorem ok_Ldone (T : Txt K mg) {f : Addr} {fd : FuncData} (F : FunD K "_law_done" "_law_done" (defArgs s_Ldone) (defBody s_Ldone) (defScope s_Ldone) [] [] f fd) (cx_Inn_give_back : Y.Met P w K mg base (L2.CX P w) 2 (He.ga K "Inn") "give_back" (spx_Inn_give_back K) []) (cx_Inn_lay : Y.Met P w K mg base (L2.CX P w) 9 (He.ga K "Inn") "lay" (spx_Inn_lay K) []) (cx_Inn_tidy : Y.Met P w K mg base (L2.CX P w) 2 (He.ga K "Inn") "tidy" (spx_Inn_tidy K) []) (cx_Inn_undo : Y.Met P w K mg base (L2.CX P w) 1 (He.ga K "Inn") "undo" (spx_Inn_undo K) []) : FnG P w K mg base CX0 10 f fd ["_law_inn", "_law_deed"] (sp_Ldone K) := by
  refine g_def F sc_Ldone (fun vs H Q E h => ?_) (fun cdv A outer s H vs Q E hr h => ⟨t_Ldone K, PSs.nox ?_, ?_⟩)
  · obtain ⟨_, _, rfl, _⟩ := h
    rfl
  · exact (pss_one (Y.ps_tryK (i := 2) (tb := fun W1 => (tSeq (tIfS (tTest (tOp rEq (tOp (rIxT K) (tVar 1) (tC (.int 0))) (tC (.str "take"))))
  (tRet (tTup (tCons (tC (.str "ok")) (tCons (Y.tNeverE) tNil))))
  tNext)
  (tSeq (tIfS (tTest (tOp rEq (tOp (rIxT K) (tVar 1) (tC (.int 0))) (tC (.str "back"))))
  (tRet (tTup (tCons (tC (.str "ok")) (tCons (tMethX (He.ga K "Inn") "give_back" (spx_Inn_give_back K) [] W1 (tVar 0) (tCons (tOp (rIxT K) (tVar 1) (tC (.int 1))) tNil)) tNil))))
  tNext)
  (tSeq (tIfS (tTest (tOp rEq (tOp (rIxT K) (tVar 1) (tC (.int 0))) (tC (.str "lay"))))
  (tRet (tTup (tCons (tC (.str "ok")) (tCons (tMethX (He.ga K "Inn") "lay" (spx_Inn_lay K) [] W1 (tVar 0) (tCons (tOp (rIxT K) (tVar 1) (tC (.int 1))) (tCons (tOp (rIxT K) (tVar 1) (tC (.int 2))) tNil))) tNil))))
  tNext)
  (tSeq (tIfS (tTest (tOp rEq (tOp (rIxT K) (tVar 1) (tC (.int 0))) (tC (.str "tidy"))))
  (tRet (tTup (tCons (tC (.str "ok")) (tCons (tMethX (He.ga K "Inn") "tidy" (spx_Inn_tidy K) [] W1 (tVar 0) (tCons (tOp (rIxT K) (tVar 1) (tC (.int 1))) tNil)) tNil))))
  tNext)
  (tRet (tTup (tCons (tC (.str "ok")) (tCons (tMethX (He.ga K "Inn") "undo" (spx_Inn_undo K) [] W1 (tVar 0) tNil) tNil))))))))) (ts := (tSeq (tAsg (tLst (tCons (tCB (Y.rIsK K) (tCons (tVar 2) (tCons (tC (.ref (He.ga K "Off"))) tNil))) (tCons (tCB (Y.rIsK K) (tCons (tVar 2) (tCons (tC (.ref (He.ga K "NoTaken"))) tNil))) (tCons (tCB (Y.rIsK K) (tCons (tVar 2) (tCons (tC (.ref (He.ga K "NoName"))) tNil))) (tCons (tCB (Y.rIsK K) (tCons (tVar 2) (tCons (tC (.ref (He.ga K "NoRule"))) tNil))) tNil))))) (gName 3))
  (tSeq (tAsg (tOp rCat (tVar 3) (tLst (tCons (tCB (Y.rIsK K) (tCons (tVar 2) (tCons (tC (.ref (He.ga K "TooMany"))) tNil))) (tCons (tCB (Y.rIsK K) (tCons (tVar 2) (tCons (tC (.ref (He.ga K "NoDeed"))) tNil))) tNil)))) (gName 3))
  (tSeq (tIfS (tOr (tTest (tOp rNe (tBM K "list" (rCntV K) (tVar 3) (tCons (tC (.bl true)) tNil)) (tC (.int 1)))) (tNot (tB (tCB (Y.rIsK K) (tCons (tVar 2) (tCons (tC (.ty "ValueError")) tNil))))))
  (tRet (tTup (tCons (tC (.str "wrong")) (tCons (tC .non) tNil))))
  tNext)
  (tSeq (tIfS (tB (tCB (Y.rIsK K) (tCons (tVar 2) (tCons (tC (.ref (He.ga K "Off"))) tNil))))
  (tRet (tTup (tCons (tC (.str "off")) (tCons (tXat K (tVar 2) "days") tNil))))
  tNext)
  (tSeq (tIfS (tB (tCB (Y.rIsK K) (tCons (tVar 2) (tCons (tC (.ref (He.ga K "NoRule"))) tNil))))
  (tRet (tTup (tCons (tC (.str "no rule")) (tCons (tXat K (tVar 2) "number") tNil))))
  tNext)
  (tRet (tTup (tCons (tOp (rIxL K) (tLst (tCons (tC (.str "")) (tCons (tC (.str "no taken")) (tCons (tC (.str "no name")) (tCons (tC (.str "")) (tCons (tC (.str "many")) (tCons (tC (.str "no deed")) tNil))))))) (tBM K "list" (rIndex K) (tVar 3) (tCons (tC (.bl true)) tNil))) (tCons (tC .non) tNil)))))))))) (Wout := (fun _ _ _ _ => False)) rfl rfl rfl sc_Ldone.nd rfl rfl ⟨rfl, by decide, Or.inl T.g_StayError⟩ takes0 (fun W1 pn1 xe1 tk1 po1 => (pss_cons (ps_if (pt_cmpR op_eq (pe_ix ix_tup (pv 1) pe_int (fun _ _ => rfl)) pe_str (nomark _)) (pss_one (ps_ret (pe_tup (pa_cons pe_str (pa_cons Y.pe_neverE pa_nil))))) pss_nil)
  (pss_cons (ps_if (pt_cmpR op_eq (pe_ix ix_tup (pv 1) pe_int (fun _ _ => rfl)) pe_str (nomark _)) (pss_one (ps_ret (pe_tup (pa_cons pe_str (pa_cons (Y.pe_mx cx_Inn_give_back hr (by decide) tk1 (pv 0) (pa_cons (pe_ix ix_tup (pv 1) pe_int (fun _ _ => rfl)) pa_nil)) pa_nil))))) pss_nil)
  (pss_cons (ps_if (pt_cmpR op_eq (pe_ix ix_tup (pv 1) pe_int (fun _ _ => rfl)) pe_str (nomark _)) (pss_one (ps_ret (pe_tup (pa_cons pe_str (pa_cons (Y.pe_mx cx_Inn_lay hr (by decide) tk1 (pv 0) (pa_cons (pe_ix ix_tup (pv 1) pe_int (fun _ _ => rfl)) (pa_cons (pe_ix ix_tup (pv 1) pe_int (fun _ _ => rfl)) pa_nil))) pa_nil))))) pss_nil)
  (pss_cons (ps_if (pt_cmpR op_eq (pe_ix ix_tup (pv 1) pe_int (fun _ _ => rfl)) pe_str (nomark _)) (pss_one (ps_ret (pe_tup (pa_cons pe_str (pa_cons (Y.pe_mx cx_Inn_tidy hr (by decide) tk1 (pv 0) (pa_cons (pe_ix ix_tup (pv 1) pe_int (fun _ _ => rfl)) pa_nil)) pa_nil))))) pss_nil)
  (pss_one (ps_ret (pe_tup (pa_cons pe_str (pa_cons (Y.pe_mx0 cx_Inn_undo hr (by decide) tk1 (pv 0)) pa_nil)))))))))) (fun a1 pn1 => (pss_cons (ps_set (i := 3) sc_Ldone.nd rfl (Or.inl rfl) (pe_lst (pa_cons (pe_callB Y.call_isK (by rfl) T.b_isinstance (by decide +kernel) (pa_cons (pv 2) (pa_cons (pe_glob rfl T.g_Off rfl) pa_nil))) (pa_cons (pe_callB Y.call_isK (by rfl) T.b_isinstance (by decide +kernel) (pa_cons (pv 2) (pa_cons (pe_glob rfl T.g_NoTaken rfl) pa_nil))) (pa_cons (pe_callB Y.call_isK (by rfl) T.b_isinstance (by decide +kernel) (pa_cons (pv 2) (pa_cons (pe_glob rfl T.g_NoName rfl) pa_nil))) (pa_cons (pe_callB Y.call_isK (by rfl) T.b_isinstance (by decide +kernel) (pa_cons (pv 2) (pa_cons (pe_glob rfl T.g_NoRule rfl) pa_nil))) pa_nil))))))
  (pss_cons (ps_set (i := 3) sc_Ldone.nd rfl (Or.inl rfl) (pe_op op_cat (pv 3) (pe_lst (pa_cons (pe_callB Y.call_isK (by rfl) T.b_isinstance (by decide +kernel) (pa_cons (pv 2) (pa_cons (pe_glob rfl T.g_TooMany rfl) pa_nil))) (pa_cons (pe_callB Y.call_isK (by rfl) T.b_isinstance (by decide +kernel) (pa_cons (pv 2) (pa_cons (pe_glob rfl T.g_NoDeed rfl) pa_nil))) pa_nil)))))
  (pss_cons (ps_if (PW.pt (pw_or (pt_cmpR op_ne (pe_bm PySem.F.plainAttrs_list PySem.F.slot_list_count PySem.F.type_list_count Y.mt_cntV (pv 3) (pa_cons pe_bl pa_nil)) pe_int (nomark _)) (pw_or1 (pt_not (pt_val (pe_callB Y.call_isK (by rfl) T.b_isinstance (by decide +kernel) (pa_cons (pv 2) (pa_cons (pe_bltn (v := .ty "ValueError") (by rfl) T.b_ValueError (by decide +kernel) rfl) pa_nil)))))))) (pss_one (ps_ret (pe_tup (pa_cons pe_str (pa_cons pe_non pa_nil))))) pss_nil)
  (pss_cons (ps_if (pt_val (pe_callB Y.call_isK (by rfl) T.b_isinstance (by decide +kernel) (pa_cons (pv 2) (pa_cons (pe_glob rfl T.g_Off rfl) pa_nil)))) (pss_one (ps_ret (pe_tup (pa_cons pe_str (pa_cons (Y.pe_xat (pv 2)) pa_nil))))) pss_nil)
  (pss_cons (ps_if (pt_val (pe_callB Y.call_isK (by rfl) T.b_isinstance (by decide +kernel) (pa_cons (pv 2) (pa_cons (pe_glob rfl T.g_NoRule rfl) pa_nil)))) (pss_one (ps_ret (pe_tup (pa_cons pe_str (pa_cons (Y.pe_xat (pv 2)) pa_nil))))) pss_nil)
  (pss_one (ps_ret (pe_tup (pa_cons (pe_ix ix_list (pe_lst (pa_cons pe_str (pa_cons pe_str (pa_cons pe_str (pa_cons pe_str (pa_cons pe_str (pa_cons pe_str pa_nil))))))) (pe_bm PySem.F.plainAttrs_list PySem.F.slot_list_index PySem.F.type_list_index mt_index (pv 3) (pa_cons pe_bl pa_nil)) (fun _ _ => rfl)) (pa_cons pe_non pa_nil)))))))))))))
  · obtain ⟨_, _, rfl, _⟩ := id h
    exact pure_Ldone h
theorem ok_Lis_fresh (T : Txt K mg) {f : Addr} {fd : FuncData} (F : FunD K "_law_is_fresh" "_law_is_fresh" (defArgs s_Lis_fresh) (defBody s_Lis_fresh) (defScope s_Lis_fresh) [] [] f fd) (c_Inn_rooms : Y.Met P w K mg base CX0 2 (He.ga K "Inn") "rooms" (sp_Inn_rooms K) []) (c_Inn_full : Y.Met P w K mg base CX0 2 (He.ga K "Inn") "full" (sp_Inn_full K) []) (c_Inn_standing : Y.Met P w K mg base CX0 1 (He.ga K "Inn") "standing" (sp_Inn_standing K) []) (c_Inn_rules_of : Y.Met P w K mg base CX0 4 (He.ga K "Inn") "rules_of" (sp_Inn_rules_of K) []) (c_Ldone : Y.Cal P w K mg base CX0 10 "_law_done" (sp_Ldone K) []) : FnG P w K mg base CX0 11 f fd ["_law_inn", "_law_pairs"] (sp_Lis_fresh K) := by
  refine g_def F sc_Lis_fresh (fun vs H Q E h => ?_) (fun cdv A outer s H vs Q E hr h => ⟨t_Lis_fresh K, PSs.nox ?_, ?_⟩)
  · obtain ⟨_, _, rfl, _⟩ := h
    rfl
  · exact (pss_cons (ps_if (pt_cmpR (op_neD hr.units) (pe_tup (pa_cons (Y.pe_m0 c_Inn_standing hr (by decide) pass0 (pv 0)) (pa_cons (Y.pe_m0 c_Inn_full hr (by decide) pass0 (pv 0)) (pa_cons (Y.pe_m0 c_Inn_rooms hr (by decide) pass0 (pv 0)) pa_nil)))) (pe_tup (pa_cons (pe_lst pa_nil) (pa_cons (pe_lst pa_nil) (pa_cons (pe_lst pa_nil) pa_nil)))) (nomark _)) (pss_one (ps_ret pe_bl)) pss_nil)
  (pss_cons (ps_if (pt_cmpR (op_neD hr.units) (pe_lc (own := [("_law_name", 4), ("_law_rules", 5)]) (g := (gTup K 2 (gCons (gName 4) (gCons (gName 5) gNil)))) (tt := tYes) rfl sc_Lis_fresh.nd (pi_list (pv 1)) (blkOk_by (own := [("_law_name", 4), ("_law_rules", 5)]) (N := ["_law_inn", "_law_pairs", "_law_gone", "_law_number", "_law_name", "_law_rules"]) (sc := defScope s_Lis_fresh) (by decide +kernel)) (fun _ _ _ _ _ => (pg_tup (by rfl) (pgs_cons (pg_name (i := 4) sc_Lis_fresh.nd rfl (Or.inl rfl)) (pgs_cons (pg_name (i := 5) sc_Lis_fresh.nd rfl (Or.inl rfl)) pgs_nil)))) (fun _ _ _ _ _ => pts_nil) (fun _ _ _ _ _ => (Y.pe_m c_Inn_rules_of hr (by decide) pass0 (pv 0) (pa_cons (pv 4) pa_nil)))) (pe_lc (own := [("_law_name", 4), ("_law_rules", 5)]) (g := (gTup K 2 (gCons (gName 4) (gCons (gName 5) gNil)))) (tt := tYes) rfl sc_Lis_fresh.nd (pi_list (pv 1)) (blkOk_by (own := [("_law_name", 4), ("_law_rules", 5)]) (N := ["_law_inn", "_law_pairs", "_law_gone", "_law_number", "_law_name", "_law_rules"]) (sc := defScope s_Lis_fresh) (by decide +kernel)) (fun _ _ _ _ _ => (pg_tup (by rfl) (pgs_cons (pg_name (i := 4) sc_Lis_fresh.nd rfl (Or.inl rfl)) (pgs_cons (pg_name (i := 5) sc_Lis_fresh.nd rfl (Or.inl rfl)) pgs_nil)))) (fun _ _ _ _ _ => pts_nil) (fun _ _ _ _ _ => (pv 5))) (nomark _)) (pss_one (ps_ret pe_bl)) pss_nil)
  (pss_cons (ps_setLc (i := 2) (own := [("_law_number", 3)]) (g := (gName 3)) (tt := tYes) rfl sc_Lis_fresh.nd rfl rfl (sw_true rfl rfl rfl (by decide +kernel)) (pi_tup (pe_tup (pa_cons pe_int (pa_cons pe_int (pa_cons (pe_un un_neg pe_int) (pa_cons (pe_op op_pow pe_int pe_int) pa_nil)))))) (blkOk_by (own := [("_law_number", 3)]) (N := ["_law_inn", "_law_pairs", "_law_gone", "_law_number", "_law_name", "_law_rules"]) (sc := defScope s_Lis_fresh) (by decide +kernel)) (fun _ _ _ _ _ => (pg_name (i := 3) sc_Lis_fresh.nd rfl (Or.inl rfl))) (fun _ _ _ _ _ => pts_nil) (fun _ _ _ _ _ => (Y.pe_c c_Ldone hr (by decide) rfl pass0 (pa_cons (pv 0) (pa_cons (pe_tup (pa_cons pe_str (pa_cons (pv 3) pa_nil))) pa_nil)))))
  (pss_one (ps_ret (pe_and (pe_cmpR (op_eqD hr.units) (pv 2) (pe_op op_rep (pe_lst (pa_cons (pe_tup (pa_cons pe_str (pa_cons pe_non pa_nil))) pa_nil)) pe_int) (nomark _)) (pe_one (pe_cmpR (op_eqD hr.units) (Y.pe_c c_Ldone hr (by decide) rfl pass0 (pa_cons (pv 0) (pa_cons (pe_tup (pa_cons pe_str pa_nil)) pa_nil))) (pe_tup (pa_cons pe_str (pa_cons pe_non pa_nil))) (nomark _)))))))))
  · obtain ⟨_, _, rfl, _⟩ := id h
    exact pure_Lis_fresh h
theorem okx_Inn_rules_of (T : Txt K mg) {f : Addr} {fd : FuncData} (F : FunD K "rules_of" "Inn.rules_of" (defArgs s_Inn_rules_of) (defBody s_Inn_rules_of) (defScope s_Inn_rules_of) [] [] f fd) (cx_Inn_need_name : Y.Met P w K mg base (L2.CX P w) 1 (He.ga K "Inn") "need_name" (spx_Inn_need_name K) []) (c_Book_rules : Y.Met P w K mg base CX0 3 (He.ga K "Book") "rules" (sp_Book_rules K) []) : FnG P w K mg base (L2.CX P w) 4 f fd ["self", "name"] (spx_Inn_rules_of K) := by
  refine g_def F sc_Inn_rules_of (fun vs H Q E h => ?_) (fun cdv A outer s H vs Q E hr h => ⟨x_Inn_rules_of K E, ?_, ?_⟩)
  · obtain ⟨_, _, rfl, _⟩ := h
    rfl
  · exact (pss_cons (ps_expr (Y.pe_mx cx_Inn_need_name hr (by decide) (takes_of (E := E) rfl rfl rfl rfl) (pv 0) (pa_cons (pv 1) pa_nil)))
  (pss_one (ps_ret (Y.pe_m0 c_Book_rules hr (by decide) pass0 (pe_dget (hu_of hr.rm) (pe_fld (pv 0) rfl) (pv 1) (fun _ _ => rfl))))))
  · obtain ⟨_, _, rfl, _⟩ := id h
    exact purex_Inn_rules_of h
theorem ok_Lno_name (T : Txt K mg) {f : Addr} {fd : FuncData} (F : FunD K "_law_no_name" "_law_no_name" (defArgs s_Lno_name) (defBody s_Lno_name) (defScope s_Lno_name) [] [] f fd) (cx_Inn_rules_of : Y.Met P w K mg base (L2.CX P w) 4 (He.ga K "Inn") "rules_of" (spx_Inn_rules_of K) []) (c_Ldone : Y.Cal P w K mg base CX0 10 "_law_done" (sp_Ldone K) []) : FnG P w K mg base CX0 11 f fd ["_law_inn", "_law_name"] (sp_Lno_name K) := by
  refine g_def F sc_Lno_name (fun vs H Q E h => ?_) (fun cdv A outer s H vs Q E hr h => ⟨t_Lno_name K, PSs.nox ?_, ?_⟩)
  · obtain ⟨_, _, rfl, _⟩ := h
    rfl
  · exact (pss_cons (ps_set (i := 2) sc_Lno_name.nd rfl (Or.inl rfl) pe_bl)
  (pss_cons (Y.ps_tryO (tb := fun W1 => (tDrop (tMethX (He.ga K "Inn") "rules_of" (spx_Inn_rules_of K) [] W1 (tVar 0) (tCons (tVar 1) tNil)))) (ts := (tAsg (tC (.bl true)) (gName 2))) (Wout := (fun _ _ _ _ => False)) rfl rfl ⟨rfl, by decide, Or.inl T.g_NoName⟩ takes0 (fun W1 pn1 xe1 tk1 po1 => (pss_one (ps_expr (Y.pe_mx cx_Inn_rules_of hr (by decide) tk1 (pv 0) (pa_cons (pv 1) pa_nil))))) (fun a1 pn1 => (pss_one (ps_set (i := 2) sc_Lno_name.nd rfl (Or.inl rfl) pe_bl))))
  (pss_cons (ps_set (i := 3) sc_Lno_name.nd rfl (Or.inl rfl) (pe_lst (pa_cons (pe_tup (pa_cons pe_str (pa_cons (pv 1) (pa_cons (pe_lst (pa_cons pe_non pa_nil)) pa_nil)))) (pa_cons (pe_tup (pa_cons pe_str (pa_cons (pv 1) (pa_cons (pe_lst pa_nil) pa_nil)))) (pa_cons (pe_tup (pa_cons pe_str (pa_cons (pv 1) pa_nil))) pa_nil)))))
  (pss_one (ps_ret (pe_and (pv 2) (pe_one (pe_cmpR (op_eqD hr.units) (pe_lc (own := [("_law_deed", 4)]) (g := (gName 4)) (tt := tYes) rfl sc_Lno_name.nd (pi_list (pv 3)) (blkOk_by (own := [("_law_deed", 4)]) (N := ["_law_inn", "_law_name", "_law_refused", "_law_deeds", "_law_deed"]) (sc := defScope s_Lno_name) (by decide +kernel)) (fun _ _ _ _ _ => (pg_name (i := 4) sc_Lno_name.nd rfl (Or.inl rfl))) (fun _ _ _ _ _ => pts_nil) (fun _ _ _ _ _ => (Y.pe_c c_Ldone hr (by decide) rfl pass0 (pa_cons (pv 0) (pa_cons (pv 4) pa_nil))))) (pe_op op_rep (pe_lst (pa_cons (pe_tup (pa_cons pe_str (pa_cons pe_non pa_nil))) pa_nil)) pe_int) (nomark _)))))))))
  · obtain ⟨_, _, rfl, _⟩ := id h
    exact pure_Lno_name h
theorem ok_Llaid_right (T : Txt K mg) {f : Addr} {fd : FuncData} (F : FunD K "_law_laid_right" "_law_laid_right" (defArgs s_Llaid_right) (defBody s_Llaid_right) (defScope s_Llaid_right) [] [] f fd) (c_Ltake : Y.Cal P w K mg base CX0 1 "_law_take" (sp_Ltake K) []) (c_Lsome : Y.Cal P w K mg base CX0 5 "_law_some" (sp_Lsome K) []) (c_Ldone : Y.Cal P w K mg base CX0 10 "_law_done" (sp_Ldone K) []) (c_Inn_rules_of : Y.Met P w K mg base CX0 4 (He.ga K "Inn") "rules_of" (sp_Inn_rules_of K) []) : FnG P w K mg base CX0 11 f fd ["_law_row", "_law_inn", "_law_pairs"] (sp_Llaid_right K) := by
  refine g_def F sc_Llaid_right (fun vs H Q E h => ?_) (fun cdv A outer s H vs Q E hr h => ⟨t_Llaid_right K, PSs.nox ?_, ?_⟩)
  · obtain ⟨_, _, _, rfl, _⟩ := h
    rfl
  · exact (pss_cons (ps_asg (pe_ix ix_list (pv 2) (Y.pe_c c_Ltake hr (by decide) rfl pass0 (pa_cons (pv 0) (pa_cons (pe_callB call_len_seq (by rfl) T.b_len (by decide +kernel) (pa_cons (pv 2) pa_nil)) pa_nil))) (fun _ _ => rfl)) (pg_tup (by rfl) (pgs_cons (pg_name (i := 3) sc_Llaid_right.nd rfl (Or.inl rfl)) (pgs_cons (pg_name (i := 4) sc_Llaid_right.nd rfl (Or.inl rfl)) pgs_nil))))
  (pss_cons (ps_set (i := 5) sc_Llaid_right.nd rfl (Or.inl rfl) (Y.pe_c c_Lsome hr (by decide) rfl pass0 (pa_cons (pv 0) (pa_cons (pe_ix ix_list (pe_lst (pa_cons pe_int (pa_cons pe_int pa_nil))) (Y.pe_c c_Ltake hr (by decide) rfl pass0 (pa_cons (pv 0) (pa_cons pe_int pa_nil))) (fun _ _ => rfl)) pa_nil))))
  (pss_cons (ps_set (i := 6) sc_Llaid_right.nd rfl (Or.inl rfl) (pe_tup (pa_cons pe_str (pa_cons pe_non pa_nil))))
  (pss_cons (ps_if (PW.pt (pw_or (pt_cmpR op_gt (pe_callB call_len_seq (by rfl) T.b_len (by decide +kernel) (pa_cons (pv 5) pa_nil)) pe_int (nomark _)) (pw_or1 (pt_cmpR op_gt (pe_op op_add (pe_callB call_len_seq (by rfl) T.b_len (by decide +kernel) (pa_cons (pv 4) pa_nil)) (pe_callB call_len_seq (by rfl) T.b_len (by decide +kernel) (pa_cons (pv 5) pa_nil))) pe_int (nomark _))))) (pss_one (ps_set (i := 6) sc_Llaid_right.nd rfl (Or.inl rfl) (pe_tup (pa_cons pe_str (pa_cons pe_non pa_nil))))) pss_nil)
  (pss_cons (ps_if (pt_cmpR op_eq (Y.pe_c c_Ltake hr (by decide) rfl pass0 (pa_cons (pv 0) (pa_cons pe_int pa_nil))) pe_int (nomark _)) (pss_cons (ps_set (i := 7) sc_Llaid_right.nd rfl (Or.inl rfl) (Y.pe_c c_Ltake hr (by decide) rfl pass0 (pa_cons (pv 0) (pa_cons (pe_op op_add (pe_callB call_len_seq (by rfl) T.b_len (by decide +kernel) (pa_cons (pv 5) pa_nil)) pe_int) pa_nil))))
  (pss_cons (ps_expr (pe_bm PySem.F.plainAttrs_list PySem.F.slot_list_insert PySem.F.type_list_insert mt_insert (pv 5) (pa_cons (pv 7) (pa_cons (pe_ix ix_list (pe_lst (pa_cons (pe_tup (pa_cons pe_str (pa_cons pe_int (pa_cons pe_int (pa_cons pe_int pa_nil))))) (pa_cons pe_non (pa_cons (pe_tup (pa_cons pe_str (pa_cons pe_int (pa_cons pe_int (pa_cons pe_int pa_nil))))) (pa_cons (pe_lst (pa_cons pe_str (pa_cons pe_int (pa_cons pe_int (pa_cons pe_int pa_nil))))) (pa_cons (pe_tup pa_nil) pa_nil)))))) (Y.pe_c c_Ltake hr (by decide) rfl pass0 (pa_cons (pv 0) (pa_cons pe_int pa_nil))) (fun _ _ => rfl)) pa_nil))))
  (pss_cons (ps_expr (pe_bm PySem.F.plainAttrs_list PySem.F.slot_list_append PySem.F.type_list_append mt_append (pv 5) (pa_cons pe_non pa_nil)))
  (pss_one (ps_set (i := 6) sc_Llaid_right.nd rfl (Or.inl rfl) (pe_tup (pa_cons pe_str (pa_cons (pv 7) pa_nil)))))))) pss_nil)
  (pss_cons (ps_set (i := 8) sc_Llaid_right.nd rfl (Or.inl rfl) (Y.pe_c c_Ldone hr (by decide) rfl pass0 (pa_cons (pv 1) (pa_cons (pe_tup (pa_cons pe_str (pa_cons (pv 3) (pa_cons (pv 5) pa_nil)))) pa_nil))))
  (pss_cons (ps_if (PW.pt (pw_or (pt_cmpR (op_neD hr.units) (pv 8) (pv 6) (nomark _)) (pw_or1 (pt_val (pe_callB call_isi (by rfl) T.b_isinstance (by decide +kernel) (pa_cons (pe_ix ix_tup (pv 8) pe_int (fun _ _ => rfl)) (pa_cons (pe_bltn (v := .ty "bool") (by rfl) T.b_bool (by decide +kernel) rfl) pa_nil))))))) (pss_one (ps_ret pe_bl)) pss_nil)
  (pss_cons (ps_if (pt_cmpR op_ne (pe_ix ix_tup (pv 6) pe_int (fun _ _ => rfl)) pe_str (nomark _)) (pss_one (ps_ret (pe_cmpR (op_eqD hr.units) (Y.pe_m c_Inn_rules_of hr (by decide) pass0 (pv 1) (pa_cons (pv 3) pa_nil)) (pv 4) (nomark _)))) pss_nil)
  (pss_cons (ps_set (i := 9) sc_Llaid_right.nd rfl (Or.inl rfl) (pe_callTy call_list_of (by rfl) T.b_list (by decide +kernel) (pa_cons (pv 5) pa_nil)))
  (pss_cons (ps_expr (pe_bm PySem.F.plainAttrs_list PySem.F.slot_list_append PySem.F.type_list_append mt_append (pv 5) (pa_cons pe_non pa_nil)))
  (pss_one (ps_ret (pe_and (pe_cmpR (op_eqD hr.units) (Y.pe_m c_Inn_rules_of hr (by decide) pass0 (pv 1) (pa_cons (pv 3) pa_nil)) (pe_op op_cat (pv 4) (pv 9)) (nomark _)) (pe_one (pe_cmpR (op_eqD hr.units) (Y.pe_c c_Ldone hr (by decide) rfl pass0 (pa_cons (pv 1) (pa_cons (pe_tup (pa_cons pe_str pa_nil)) pa_nil))) (pe_tup (pa_cons pe_str (pa_cons pe_non pa_nil))) (nomark _))))))))))))))))
  · obtain ⟨_, _, _, rfl, _⟩ := id h
    exact pure_Llaid_right h
theorem ok_law (T : Txt K mg) {f : Addr} {fd : FuncData} (F : FunD K "law" "law" (defArgs s_law) (defBody s_law) (defScope s_law) [] [] f fd) (c_Lbegin : Y.Cal P w K mg base CX0 1 "_law_begin" (sp_Lbegin K) []) (c_Lnames : Y.Cal P w K mg base CX0 2 "_law_names" (sp_Lnames K) []) (c_Ltake : Y.Cal P w K mg base CX0 1 "_law_take" (sp_Ltake K) []) (c_Lsome : Y.Cal P w K mg base CX0 5 "_law_some" (sp_Lsome K) []) (c_Inn : Y.Mak P w K mg base CX0 8 "Inn" (He.ga K "Inn") (sp_Inn_init K) []) (c_Linn_refused : Y.Cal P w K mg base CX0 11 "_law_inn_refused" (sp_Linn_refused K) []) (c_Lis_fresh : Y.Cal P w K mg base CX0 11 "_law_is_fresh" (sp_Lis_fresh K) []) (c_Lno_name : Y.Cal P w K mg base CX0 11 "_law_no_name" (sp_Lno_name K) []) (c_Llaid_right : Y.Cal P w K mg base CX0 11 "_law_laid_right" (sp_Llaid_right K) []) : FnG P w K mg base CX0 12 f fd ["_law_script"] (sp_law K) := by
  refine g_def F sc_law (fun vs H Q E h => ?_) (fun cdv A outer s H vs Q E hr h => ⟨t_law K, PSs.nox ?_, ?_⟩)
  · obtain ⟨_, rfl, _⟩ := h
    rfl
  · exact (pss_cons (ps_for PassesOwn.never rfl (pi_list (pe_op op_cat (pe_lst (pa_cons pe_int pa_nil)) (pe_slice sl_list (pv 0) po_none (po_some pe_int)))) (pg_name (i := 1) sc_law.nd rfl (Or.inl rfl)) (pss_cons (ps_set (i := 2) sc_law.nd rfl (Or.inr rfl) (Y.pe_c c_Lbegin hr (by decide) rfl pass0 (pa_cons (pv 1) pa_nil)))
  (pss_cons (ps_set (i := 3) sc_law.nd rfl (Or.inl rfl) (Y.pe_c c_Lnames hr (by decide) rfl pass0 (pa_cons (pv 2) (pa_cons pe_int pa_nil))))
  (pss_cons (ps_setLc (i := 5) (own := [("_law_name", 4)]) (g := (gName 4)) (tt := tYes) rfl sc_law.nd rfl rfl (sw_true rfl rfl rfl (by decide +kernel)) (pi_list (pe_slice sl_list (pv 3) po_none (po_some (pe_op op_add pe_int (Y.pe_c c_Ltake hr (by decide) rfl pass0 (pa_cons (pv 2) (pa_cons pe_int pa_nil))))))) (blkOk_by (own := [("_law_name", 4)]) (N := ["_law_script", "_law_cell", "_law_row", "_law_names_here", "_law_name", "_law_pairs", "_law_rules", "_law_handed", "_law_inn", "_law_other", "_law_turn"]) (sc := defScope s_law) (by decide +kernel)) (fun _ _ _ _ _ => (pg_name (i := 4) sc_law.nd rfl (Or.inl rfl))) (fun _ _ _ _ _ => pts_nil) (fun _ _ _ _ _ => (pe_tup (pa_cons (pv 4) (pa_cons (Y.pe_c c_Lsome hr (by decide) rfl pass0 (pa_cons (pv 2) (pa_cons (pe_ix ix_list (pe_lst (pa_cons pe_int (pa_cons pe_int pa_nil))) (Y.pe_c c_Ltake hr (by decide) rfl pass0 (pa_cons (pv 2) (pa_cons pe_int pa_nil))) (fun _ _ => rfl)) pa_nil))) pa_nil)))))
  (pss_cons (ps_setLc (i := 7) (own := [("_law_name", 4), ("_law_rules", 6)]) (g := (gTup K 2 (gCons (gName 4) (gCons (gName 6) gNil)))) (tt := tYes) rfl sc_law.nd rfl rfl (sw_true rfl rfl rfl (by decide +kernel)) (pi_list (pv 5)) (blkOk_by (own := [("_law_name", 4), ("_law_rules", 6)]) (N := ["_law_script", "_law_cell", "_law_row", "_law_names_here", "_law_name", "_law_pairs", "_law_rules", "_law_handed", "_law_inn", "_law_other", "_law_turn"]) (sc := defScope s_law) (by decide +kernel)) (fun _ _ _ _ _ => (pg_tup (by rfl) (pgs_cons (pg_name (i := 4) sc_law.nd rfl (Or.inl rfl)) (pgs_cons (pg_name (i := 6) sc_law.nd rfl (Or.inl rfl)) pgs_nil)))) (fun _ _ _ _ _ => pts_nil) (fun _ _ _ _ _ => (pe_tup (pa_cons (pv 4) (pa_cons (pe_callTy call_list_of (by rfl) T.b_list (by decide +kernel) (pa_cons (pv 6) pa_nil)) pa_nil)))))
  (pss_cons (ps_set (i := 8) sc_law.nd rfl (Or.inr rfl) (Y.pe_k c_Inn hr (by decide) rfl pass0 (pa_cons (pe_op op_add pe_int (Y.pe_c c_Ltake hr (by decide) rfl pass0 (pa_cons (pv 2) (pa_cons pe_int pa_nil)))) (pa_cons (pv 7) pa_nil))))
  (pss_cons (ps_set (i := 9) sc_law.nd rfl (Or.inl rfl) (Y.pe_k c_Inn hr (by decide) rfl pass0 (pa_cons (pe_op op_add pe_int (Y.pe_c c_Ltake hr (by decide) rfl pass0 (pa_cons (pv 2) (pa_cons pe_int pa_nil)))) (pa_cons (pv 7) pa_nil))))
  (pss_cons (ps_for PassesOwn.never rfl (pi_list (pv 7)) (pg_tup (by rfl) (pgs_cons (pg_name (i := 4) sc_law.nd rfl (Or.inl rfl)) (pgs_cons (pg_name (i := 6) sc_law.nd rfl (Or.inl rfl)) pgs_nil))) (pss_one (ps_expr (pe_bm PySem.F.plainAttrs_list PySem.F.slot_list_append PySem.F.type_list_append mt_append (pv 6) (pa_cons pe_non pa_nil)))))
  (pss_cons (ps_expr (pe_bm PySem.F.plainAttrs_list PySem.F.slot_list_append PySem.F.type_list_append mt_append (pv 7) (pa_cons (pe_tup (pa_cons (pe_ix ix_list (pv 3) pe_int (fun _ _ => rfl)) (pa_cons (pe_lst pa_nil) pa_nil))) pa_nil)))
  (pss_cons (ps_if (pt_not (pt_val (Y.pe_c c_Linn_refused hr (by decide) rfl pass0 (pa_cons (pv 2) (pa_cons (pv 3) pa_nil))))) (pss_one (ps_ret pe_bl)) pss_nil)
  (pss_cons (ps_for PassesOwn.never rfl (pi_range1 rfl T.b_range (pa_cons pe_int pa_nil)) (pg_name (i := 10) sc_law.nd rfl (Or.inl rfl)) (pss_cons (ps_if (PW.pt (pw_or (pt_not (pt_val (Y.pe_c c_Lis_fresh hr (by decide) rfl pass0 (pa_cons (pv 8) (pa_cons (pv 5) pa_nil))))) (pw_or1 (pt_not (pt_val (Y.pe_c c_Lis_fresh hr (by decide) rfl pass0 (pa_cons (pv 9) (pa_cons (pv 5) pa_nil)))))))) (pss_one (ps_ret pe_bl)) pss_nil)
  (pss_cons (ps_if (pt_cmpR op_gt (pe_callB call_len_seq (by rfl) T.b_len (by decide +kernel) (pa_cons (pe_lc (own := [("_law_name", 4)]) (g := (gName 4)) (tt := (tNot (tB (tCall (sp_Lno_name K) [] E0 (tCons (tVar 8) (tCons (tVar 4) tNil)))))) rfl sc_law.nd (pi_list (pe_op op_cat (pe_slice sl_list (pv 3) (po_some (pe_callB call_len_seq (by rfl) T.b_len (by decide +kernel) (pa_cons (pv 5) pa_nil))) po_none) (pe_lst (pa_cons pe_str (pa_cons pe_str pa_nil))))) (blkOk_by (own := [("_law_name", 4)]) (N := ["_law_script", "_law_cell", "_law_row", "_law_names_here", "_law_name", "_law_pairs", "_law_rules", "_law_handed", "_law_inn", "_law_other", "_law_turn"]) (sc := defScope s_law) (by decide +kernel)) (fun _ _ _ _ _ => (pg_name (i := 4) sc_law.nd rfl (Or.inl rfl))) (fun _ _ _ _ _ => (pts_one (pt_not (pt_val (Y.pe_c c_Lno_name hr (by decide) rfl pass0 (pa_cons (pv 8) (pa_cons (pv 4) pa_nil))))))) (fun _ _ _ _ _ => (pv 4))) pa_nil)) pe_int (nomark _)) (pss_one (ps_ret pe_bl)) pss_nil)
  (pss_one (ps_if (pt_not (pt_val (Y.pe_c c_Llaid_right hr (by decide) rfl pass0 (pa_cons (pv 2) (pa_cons (pv 8) (pa_cons (pv 5) pa_nil)))))) (pss_one (ps_ret pe_bl)) pss_nil)))))
  (pss_one (ps_if (PW.pt (pw_or (pt_not (pt_val (Y.pe_c c_Lis_fresh hr (by decide) rfl pass0 (pa_cons (pv 8) (pa_cons (pv 5) pa_nil))))) (pw_or1 (pt_not (pt_val (Y.pe_c c_Lis_fresh hr (by decide) rfl pass0 (pa_cons (pv 9) (pa_cons (pv 5) pa_nil)))))))) (pss_one (ps_ret pe_bl)) pss_nil)))))))))))))
  (pss_one (ps_ret pe_bl)))
  · obtain ⟨_, rfl, _⟩ := id h
    exact pure_law h
end
theorem facts {P : Program} {w : World} {K : PySem.W.Frag} {h : Heap} {mg : Str → Option Value} {f : Addr} (X : K.In h) (G : h.Ns mainGlobals mg) (hfa : mg ("law" : Str) = some (.ref f)) (c : He.SaysD fa fn K) :
    ∃ fd : FuncData, (∀ (s : Shared) (v : Value), BindsTo s fd ⟨[v], []⟩ [("_law_script", v)]) ∧ ∀ base : Heap, K.In base → base.Ns mainGlobals mg → FnG P w K mg base CX0 12 f fd ["_law_script"] (sp_law K) := by
  obtain ⟨fd_Lbegin, F_Lbegin⟩ := c.def_ 0 (d := d_Lbegin) rfl
  obtain ⟨fd_Ltake, F_Ltake⟩ := c.def_ 1 (d := d_Ltake) rfl
  obtain ⟨fd_Lnames, F_Lnames⟩ := c.def_ 2 (d := d_Lnames) rfl
  obtain ⟨fd_Lcoins, F_Lcoins⟩ := c.def_ 3 (d := d_Lcoins) rfl
  obtain ⟨fd_Lworth, F_Lworth⟩ := c.def_ 4 (d := d_Lworth) rfl
  obtain ⟨fd_Lrule, F_Lrule⟩ := c.def_ 5 (d := d_Lrule) rfl
  obtain ⟨fd_Lsome, F_Lsome⟩ := c.def_ 6 (d := d_Lsome) rfl
  obtain ⟨fd_is_whole, F_is_whole⟩ := c.def_ 7 (d := d_is_whole) rfl
  obtain ⟨fd_is_day, F_is_day⟩ := c.def_ 8 (d := d_is_day) rfl
  obtain ⟨fd_is_two_days, F_is_two_days⟩ := c.def_ 9 (d := d_is_two_days) rfl
  obtain ⟨fd_is_stretch, F_is_stretch⟩ := c.def_ 10 (d := d_is_stretch) rfl
  obtain ⟨fd_Price_init, F_Price_init⟩ := c.def_ 11 (d := d_Price_init) rfl
  obtain ⟨fd_Come_init, F_Come_init⟩ := c.def_ 12 (d := d_Come_init) rfl
  obtain ⟨fd_Go_init, F_Go_init⟩ := c.def_ 13 (d := d_Go_init) rfl
  obtain ⟨fd_Least_init, F_Least_init⟩ := c.def_ 14 (d := d_Least_init) rfl
  obtain ⟨fd_Most_init, F_Most_init⟩ := c.def_ 15 (d := d_Most_init) rfl
  obtain ⟨fd_Deal_init, F_Deal_init⟩ := c.def_ 16 (d := d_Deal_init) rfl
  obtain ⟨fd_Fee_init, F_Fee_init⟩ := c.def_ 17 (d := d_Fee_init) rfl
  obtain ⟨fd_made, F_made⟩ := c.def_ 18 (d := d_made) rfl
  obtain ⟨fd_is_coins, F_is_coins⟩ := c.def_ 19 (d := d_is_coins) rfl
  obtain ⟨fd_Price_fits, F_Price_fits⟩ := c.def_ 20 (d := d_Price_fits) rfl
  obtain ⟨fd_Come_fits, F_Come_fits⟩ := c.def_ 21 (d := d_Come_fits) rfl
  obtain ⟨fd_Go_fits, F_Go_fits⟩ := c.def_ 22 (d := d_Go_fits) rfl
  obtain ⟨fd_is_nights, F_is_nights⟩ := c.def_ 23 (d := d_is_nights) rfl
  obtain ⟨fd_Least_fits, F_Least_fits⟩ := c.def_ 24 (d := d_Least_fits) rfl
  obtain ⟨fd_Most_fits, F_Most_fits⟩ := c.def_ 25 (d := d_Most_fits) rfl
  obtain ⟨fd_Deal_fits, F_Deal_fits⟩ := c.def_ 26 (d := d_Deal_fits) rfl
  obtain ⟨fd_Fee_fits, F_Fee_fits⟩ := c.def_ 27 (d := d_Fee_fits) rfl
  obtain ⟨fd_rule_of, F_rule_of⟩ := c.def_ 28 (d := d_rule_of) rfl
  obtain ⟨fd_Price_word, F_Price_word⟩ := c.def_ 29 (d := d_Price_word) rfl
  obtain ⟨fd_Come_word, F_Come_word⟩ := c.def_ 30 (d := d_Come_word) rfl
  obtain ⟨fd_Go_word, F_Go_word⟩ := c.def_ 31 (d := d_Go_word) rfl
  obtain ⟨fd_Least_word, F_Least_word⟩ := c.def_ 32 (d := d_Least_word) rfl
  obtain ⟨fd_Most_word, F_Most_word⟩ := c.def_ 33 (d := d_Most_word) rfl
  obtain ⟨fd_Deal_word, F_Deal_word⟩ := c.def_ 34 (d := d_Deal_word) rfl
  obtain ⟨fd_Fee_word, F_Fee_word⟩ := c.def_ 35 (d := d_Fee_word) rfl
  obtain ⟨fd_Book_init, F_Book_init⟩ := c.def_ 36 (d := d_Book_init) rfl
  obtain ⟨fd_Inn_init, F_Inn_init⟩ := c.def_ 37 (d := d_Inn_init) rfl
  obtain ⟨fd_NoRule_init, F_NoRule_init⟩ := c.def_ 38 (d := d_NoRule_init) rfl
  obtain ⟨fd_Linn_told, F_Linn_told⟩ := c.def_ 39 (d := d_Linn_told) rfl
  obtain ⟨fd_Linn_refused, F_Linn_refused⟩ := c.def_ 40 (d := d_Linn_refused) rfl
  obtain ⟨fd_dealt, F_dealt⟩ := c.def_ 41 (d := d_dealt) rfl
  obtain ⟨fd_Inn_rooms, F_Inn_rooms⟩ := c.def_ 42 (d := d_Inn_rooms) rfl
  obtain ⟨fd_nights_of, F_nights_of⟩ := c.def_ 43 (d := d_nights_of) rfl
  obtain ⟨fd_Inn_full, F_Inn_full⟩ := c.def_ 44 (d := d_Inn_full) rfl
  obtain ⟨fd_Inn_standing, F_Inn_standing⟩ := c.def_ 45 (d := d_Inn_standing) rfl
  obtain ⟨fd_Inn_need_name, F_Inn_need_name⟩ := c.def_ 46 (d := d_Inn_need_name) rfl
  obtain ⟨fd_Price_told, F_Price_told⟩ := c.def_ 47 (d := d_Price_told) rfl
  obtain ⟨fd_Come_told, F_Come_told⟩ := c.def_ 48 (d := d_Come_told) rfl
  obtain ⟨fd_Go_told, F_Go_told⟩ := c.def_ 49 (d := d_Go_told) rfl
  obtain ⟨fd_Least_told, F_Least_told⟩ := c.def_ 50 (d := d_Least_told) rfl
  obtain ⟨fd_Most_told, F_Most_told⟩ := c.def_ 51 (d := d_Most_told) rfl
  obtain ⟨fd_Deal_told, F_Deal_told⟩ := c.def_ 52 (d := d_Deal_told) rfl
  obtain ⟨fd_Fee_told, F_Fee_told⟩ := c.def_ 53 (d := d_Fee_told) rfl
  obtain ⟨fd_Book_rules, F_Book_rules⟩ := c.def_ 54 (d := d_Book_rules) rfl
  obtain ⟨fd_Inn_rules_of, F_Inn_rules_of⟩ := c.def_ 55 (d := d_Inn_rules_of) rfl
  obtain ⟨fd_Inn_keep, F_Inn_keep⟩ := c.def_ 56 (d := d_Inn_keep) rfl
  obtain ⟨fd_Inn_give_back, F_Inn_give_back⟩ := c.def_ 57 (d := d_Inn_give_back) rfl
  obtain ⟨fd_laid, F_laid⟩ := c.def_ 58 (d := d_laid) rfl
  obtain ⟨fd_Inn_lay, F_Inn_lay⟩ := c.def_ 59 (d := d_Inn_lay) rfl
  obtain ⟨fd_Inn_tidy, F_Inn_tidy⟩ := c.def_ 60 (d := d_Inn_tidy) rfl
  obtain ⟨fd_Inn_undo, F_Inn_undo⟩ := c.def_ 61 (d := d_Inn_undo) rfl
  obtain ⟨fd_Ldone, F_Ldone⟩ := c.def_ 62 (d := d_Ldone) rfl
  obtain ⟨fd_Lis_fresh, F_Lis_fresh⟩ := c.def_ 63 (d := d_Lis_fresh) rfl
  obtain ⟨fd_Lno_name, F_Lno_name⟩ := c.def_ 64 (d := d_Lno_name) rfl
  obtain ⟨fd_Llaid_right, F_Llaid_right⟩ := c.def_ 65 (d := d_Llaid_right) rfl
  obtain ⟨fd_law, F_law⟩ := c.def_ 66 (d := d_law) rfl
  obtain ⟨tk0, ek0⟩ := He.int_ok X G (c.fact 92 (f := .int "LAST_DAY" 1000000) rfl)
  obtain ⟨tk1, ek1⟩ := He.int_ok X G (c.fact 93 (f := .int "MOST_COINS" 1000000000000) rfl)
  obtain ⟨tk2, ek2⟩ := He.int_ok X G (c.fact 94 (f := .int "MOST_NIGHTS" 14) rfl)
  obtain ⟨tk3, ek3⟩ := He.int_ok X G (c.fact 95 (f := .int "MOST_RULES" 24) rfl)
  have T : Txt K mg := ⟨He.free_ok X G (c.fact 77 (f := .free "ValueError") rfl), He.free_ok X G (c.fact 78 (f := .free "bool") rfl), He.free_ok X G (c.fact 79 (f := .free "dict") rfl), He.free_ok X G (c.fact 80 (f := .free "enumerate") rfl), He.free_ok X G (c.fact 81 (f := .free "int") rfl), He.free_ok X G (c.fact 82 (f := .free "isinstance") rfl), He.free_ok X G (c.fact 83 (f := .free "len") rfl), He.free_ok X G (c.fact 84 (f := .free "list") rfl), He.free_ok X G (c.fact 85 (f := .free "max") rfl), He.free_ok X G (c.fact 86 (f := .free "min") rfl), He.free_ok X G (c.fact 87 (f := .free "range") rfl), He.free_ok X G (c.fact 88 (f := .free "sorted") rfl), He.free_ok X G (c.fact 89 (f := .free "str") rfl), He.free_ok X G (c.fact 90 (f := .free "tuple") rfl), He.free_ok X G (c.fact 91 (f := .free "zip") rfl), ⟨_, ek0, tk0, rfl⟩, ⟨_, ek1, tk1, rfl⟩, ⟨_, ek2, tk2, rfl⟩, ⟨_, ek3, tk3, rfl⟩, ⟨_, He.glo_ok X G (c.fact 96 (f := .glo "WORDS") rfl), rfl⟩, He.glo_ok X G (c.fact 97 (f := .glo "Book") rfl), He.glo_ok X G (c.fact 98 (f := .glo "Come") rfl), He.glo_ok X G (c.fact 99 (f := .glo "Deal") rfl), He.glo_ok X G (c.fact 100 (f := .glo "Fee") rfl), He.glo_ok X G (c.fact 101 (f := .glo "Go") rfl), He.glo_ok X G (c.fact 102 (f := .glo "Inn") rfl), He.glo_ok X G (c.fact 103 (f := .glo "Least") rfl), He.glo_ok X G (c.fact 104 (f := .glo "Most") rfl), He.glo_ok X G (c.fact 105 (f := .glo "NoDeed") rfl), He.glo_ok X G (c.fact 106 (f := .glo "NoName") rfl), He.glo_ok X G (c.fact 45 (f := .glo "NoRule") rfl), He.glo_ok X G (c.fact 107 (f := .glo "NoTaken") rfl), He.glo_ok X G (c.fact 108 (f := .glo "Off") rfl), He.glo_ok X G (c.fact 109 (f := .glo "Price") rfl), He.glo_ok X G (c.fact 110 (f := .glo "StayError") rfl), He.glo_ok X G (c.fact 111 (f := .glo "TooMany") rfl)⟩
  have e := hfa.symm.trans (He.glo_ok X G (c.fact 76 (f := .glo "law") rfl))
  cases e
  have b := FunD.bindsA (ps := ["_law_script"]) F_law fun _ _ _ _ _ _ us hl => match us, hl with | [_], _ => rfl
  refine ⟨fd_law, fun s v => b s [v] rfl, fun base _ _ => ?_⟩
  have c_Lbegin : Y.Cal P w K mg base CX0 1 "_law_begin" (sp_Lbegin K) [] := ⟨_, fd_Lbegin, ["_law_cell"], [], ok_Lbegin T F_Lbegin , He.glo_ok X G (c.fact 0 (f := .glo "_law_begin") rfl), F_Lbegin.kp, F_Lbegin.bindsN fun _ _ _ _ _ _ us hl => match us, hl with | [_], _ => rfl, .nil⟩
  have c_Ltake : Y.Cal P w K mg base CX0 1 "_law_take" (sp_Ltake K) [] := ⟨_, fd_Ltake, ["_law_row", "_law_base"], [], ok_Ltake T F_Ltake , He.glo_ok X G (c.fact 1 (f := .glo "_law_take") rfl), F_Ltake.kp, F_Ltake.bindsN fun _ _ _ _ _ _ us hl => match us, hl with | [_, _], _ => rfl, .nil⟩
  have c_Lnames : Y.Cal P w K mg base CX0 2 "_law_names" (sp_Lnames K) [] := ⟨_, fd_Lnames, ["_law_row", "_law_many"], [], ok_Lnames T F_Lnames c_Ltake, He.glo_ok X G (c.fact 2 (f := .glo "_law_names") rfl), F_Lnames.kp, F_Lnames.bindsN fun _ _ _ _ _ _ us hl => match us, hl with | [_, _], _ => rfl, .nil⟩
  have c_Lcoins : Y.Cal P w K mg base CX0 2 "_law_coins" (sp_Lcoins K) [] := ⟨_, fd_Lcoins, ["_law_row"], [], ok_Lcoins T F_Lcoins c_Ltake, He.glo_ok X G (c.fact 3 (f := .glo "_law_coins") rfl), F_Lcoins.kp, F_Lcoins.bindsN fun _ _ _ _ _ _ us hl => match us, hl with | [_], _ => rfl, .nil⟩
  have c_Lworth : Y.Cal P w K mg base CX0 3 "_law_worth" (sp_Lworth K) [] := ⟨_, fd_Lworth, ["_law_row", "_law_word"], [], ok_Lworth T F_Lworth c_Ltake c_Lcoins, He.glo_ok X G (c.fact 4 (f := .glo "_law_worth") rfl), F_Lworth.kp, F_Lworth.bindsN fun _ _ _ _ _ _ us hl => match us, hl with | [_, _], _ => rfl, .nil⟩
  have c_Lrule : Y.Cal P w K mg base CX0 4 "_law_rule" (sp_Lrule K) [] := ⟨_, fd_Lrule, ["_law_row", "_law_day"], [], ok_Lrule T F_Lrule c_Ltake c_Lworth, He.glo_ok X G (c.fact 5 (f := .glo "_law_rule") rfl), F_Lrule.kp, F_Lrule.bindsN fun _ _ _ _ _ _ us hl => match us, hl with | [_, _], _ => rfl, .nil⟩
  have c_Lsome : Y.Cal P w K mg base CX0 5 "_law_some" (sp_Lsome K) [] := ⟨_, fd_Lsome, ["_law_row", "_law_many"], [], ok_Lsome T F_Lsome c_Ltake c_Lrule, He.glo_ok X G (c.fact 6 (f := .glo "_law_some") rfl), F_Lsome.kp, F_Lsome.bindsN fun _ _ _ _ _ _ us hl => match us, hl with | [_, _], _ => rfl, .nil⟩
  have c_is_whole : Y.Cal P w K mg base CX0 1 "is_whole" (sp_is_whole K) [] := ⟨_, fd_is_whole, ["thing"], [], ok_is_whole T F_is_whole , He.glo_ok X G (c.fact 7 (f := .glo "is_whole") rfl), F_is_whole.kp, F_is_whole.bindsN fun _ _ _ _ _ _ us hl => match us, hl with | [_], _ => rfl, .nil⟩
  have c_is_day : Y.Cal P w K mg base CX0 2 "is_day" (sp_is_day K) [] := ⟨_, fd_is_day, ["thing"], [], ok_is_day T F_is_day c_is_whole, He.glo_ok X G (c.fact 8 (f := .glo "is_day") rfl), F_is_day.kp, F_is_day.bindsN fun _ _ _ _ _ _ us hl => match us, hl with | [_], _ => rfl, .nil⟩
  have c_is_two_days : Y.Cal P w K mg base CX0 3 "is_two_days" (sp_is_two_days K) [] := ⟨_, fd_is_two_days, ["thing"], [], ok_is_two_days T F_is_two_days c_is_day, He.glo_ok X G (c.fact 9 (f := .glo "is_two_days") rfl), F_is_two_days.kp, F_is_two_days.bindsN fun _ _ _ _ _ _ us hl => match us, hl with | [_], _ => rfl, .nil⟩
  have c_is_stretch : Y.Cal P w K mg base CX0 4 "is_stretch" (sp_is_stretch K) [] := ⟨_, fd_is_stretch, ["thing"], [], ok_is_stretch T F_is_stretch c_is_two_days, He.glo_ok X G (c.fact 10 (f := .glo "is_stretch") rfl), F_is_stretch.kp, F_is_stretch.bindsN fun _ _ _ _ _ _ us hl => match us, hl with | [_], _ => rfl, .nil⟩
  have c_Price : Y.Mak P w K mg base CX0 1 "Price" (He.ga K "Price") (sp_Rule_init K) [] := ⟨_, fd_Price_init, ["self", "first", "last", "worth"], [], He.mkr_ok (c.fact 11 (f := .mkr "Price") rfl), ok_Rule_init T F_Price_init , He.glo_ok X G (c.fact 109 (f := .glo "Price") rfl), F_Price_init.bindsN fun _ _ _ _ _ _ us hl => match us, hl with | [_, _, _, _], _ => rfl, .nil⟩
  have c_Come : Y.Mak P w K mg base CX0 1 "Come" (He.ga K "Come") (sp_Rule_init K) [] := ⟨_, fd_Come_init, ["self", "first", "last", "worth"], [], He.mkr_ok (c.fact 12 (f := .mkr "Come") rfl), ok_Rule_init T F_Come_init , He.glo_ok X G (c.fact 98 (f := .glo "Come") rfl), F_Come_init.bindsN fun _ _ _ _ _ _ us hl => match us, hl with | [_, _, _, _], _ => rfl, .nil⟩
  have c_Go : Y.Mak P w K mg base CX0 1 "Go" (He.ga K "Go") (sp_Rule_init K) [] := ⟨_, fd_Go_init, ["self", "first", "last", "worth"], [], He.mkr_ok (c.fact 13 (f := .mkr "Go") rfl), ok_Rule_init T F_Go_init , He.glo_ok X G (c.fact 101 (f := .glo "Go") rfl), F_Go_init.bindsN fun _ _ _ _ _ _ us hl => match us, hl with | [_, _, _, _], _ => rfl, .nil⟩
  have c_Least : Y.Mak P w K mg base CX0 1 "Least" (He.ga K "Least") (sp_Rule_init K) [] := ⟨_, fd_Least_init, ["self", "first", "last", "worth"], [], He.mkr_ok (c.fact 14 (f := .mkr "Least") rfl), ok_Rule_init T F_Least_init , He.glo_ok X G (c.fact 103 (f := .glo "Least") rfl), F_Least_init.bindsN fun _ _ _ _ _ _ us hl => match us, hl with | [_, _, _, _], _ => rfl, .nil⟩
  have c_Most : Y.Mak P w K mg base CX0 1 "Most" (He.ga K "Most") (sp_Rule_init K) [] := ⟨_, fd_Most_init, ["self", "first", "last", "worth"], [], He.mkr_ok (c.fact 15 (f := .mkr "Most") rfl), ok_Rule_init T F_Most_init , He.glo_ok X G (c.fact 104 (f := .glo "Most") rfl), F_Most_init.bindsN fun _ _ _ _ _ _ us hl => match us, hl with | [_, _, _, _], _ => rfl, .nil⟩
  have c_Deal : Y.Mak P w K mg base CX0 1 "Deal" (He.ga K "Deal") (sp_Rule_init K) [] := ⟨_, fd_Deal_init, ["self", "first", "last", "worth"], [], He.mkr_ok (c.fact 16 (f := .mkr "Deal") rfl), ok_Rule_init T F_Deal_init , He.glo_ok X G (c.fact 99 (f := .glo "Deal") rfl), F_Deal_init.bindsN fun _ _ _ _ _ _ us hl => match us, hl with | [_, _, _, _], _ => rfl, .nil⟩
  have c_Fee : Y.Mak P w K mg base CX0 1 "Fee" (He.ga K "Fee") (sp_Rule_init K) [] := ⟨_, fd_Fee_init, ["self", "first", "last", "worth"], [], He.mkr_ok (c.fact 17 (f := .mkr "Fee") rfl), ok_Rule_init T F_Fee_init , He.glo_ok X G (c.fact 100 (f := .glo "Fee") rfl), F_Fee_init.bindsN fun _ _ _ _ _ _ us hl => match us, hl with | [_, _, _, _], _ => rfl, .nil⟩
  have c_made : Y.Cal P w K mg base CX0 3 "made" (sp_made K) [] := ⟨_, fd_made, ["word", "first", "last", "worth"], [], ok_made T F_made c_Price c_Come c_Go c_Least c_Most c_Deal c_Fee, He.glo_ok X G (c.fact 18 (f := .glo "made") rfl), F_made.kp, F_made.bindsN fun _ _ _ _ _ _ us hl => match us, hl with | [_, _, _, _], _ => rfl, .nil⟩
  have c_is_coins : Y.Cal P w K mg base CX0 2 "is_coins" (sp_is_coins K) [] := ⟨_, fd_is_coins, ["thing"], [], ok_is_coins T F_is_coins c_is_whole, He.glo_ok X G (c.fact 19 (f := .glo "is_coins") rfl), F_is_coins.kp, F_is_coins.bindsN fun _ _ _ _ _ _ us hl => match us, hl with | [_], _ => rfl, .nil⟩
  have c_Price_fits : Y.Met P w K mg base CX0 3 (He.ga K "Price") "fits" (sp_Price_fits K) [] := ⟨_, fd_Price_fits, ["self"], [], He.cls_ok (c.fact 20 (f := .cls "Price") rfl), He.meth_ok (c.fact 21 (f := .meth "Price" "fits") rfl), ok_Price_fits T F_Price_fits c_is_coins, F_Price_fits.bindsN fun _ _ _ _ _ _ us hl => match us, hl with | [_], _ => rfl, .nil⟩
  have c_Come_fits : Y.Met P w K mg base CX0 1 (He.ga K "Come") "fits" (sp_Come_fits K) [] := ⟨_, fd_Come_fits, ["self"], [], He.cls_ok (c.fact 22 (f := .cls "Come") rfl), He.meth_ok (c.fact 23 (f := .meth "Come" "fits") rfl), ok_Come_fits T F_Come_fits , F_Come_fits.bindsN fun _ _ _ _ _ _ us hl => match us, hl with | [_], _ => rfl, .nil⟩
  have c_Go_fits : Y.Met P w K mg base CX0 1 (He.ga K "Go") "fits" (sp_Go_fits K) [] := ⟨_, fd_Go_fits, ["self"], [], He.cls_ok (c.fact 24 (f := .cls "Go") rfl), He.meth_ok (c.fact 25 (f := .meth "Go" "fits") rfl), ok_Go_fits T F_Go_fits , F_Go_fits.bindsN fun _ _ _ _ _ _ us hl => match us, hl with | [_], _ => rfl, .nil⟩
  have c_is_nights : Y.Cal P w K mg base CX0 2 "is_nights" (sp_is_nights K) [] := ⟨_, fd_is_nights, ["thing"], [], ok_is_nights T F_is_nights c_is_whole, He.glo_ok X G (c.fact 26 (f := .glo "is_nights") rfl), F_is_nights.kp, F_is_nights.bindsN fun _ _ _ _ _ _ us hl => match us, hl with | [_], _ => rfl, .nil⟩
  have c_Least_fits : Y.Met P w K mg base CX0 3 (He.ga K "Least") "fits" (sp_Least_fits K) [] := ⟨_, fd_Least_fits, ["self"], [], He.cls_ok (c.fact 27 (f := .cls "Least") rfl), He.meth_ok (c.fact 28 (f := .meth "Least" "fits") rfl), ok_Least_fits T F_Least_fits c_is_nights, F_Least_fits.bindsN fun _ _ _ _ _ _ us hl => match us, hl with | [_], _ => rfl, .nil⟩
  have c_Most_fits : Y.Met P w K mg base CX0 3 (He.ga K "Most") "fits" (sp_Most_fits K) [] := ⟨_, fd_Most_fits, ["self"], [], He.cls_ok (c.fact 29 (f := .cls "Most") rfl), He.meth_ok (c.fact 30 (f := .meth "Most" "fits") rfl), ok_Most_fits T F_Most_fits c_is_nights, F_Most_fits.bindsN fun _ _ _ _ _ _ us hl => match us, hl with | [_], _ => rfl, .nil⟩
  have c_Deal_fits : Y.Met P w K mg base CX0 3 (He.ga K "Deal") "fits" (sp_Deal_fits K) [] := ⟨_, fd_Deal_fits, ["self"], [], He.cls_ok (c.fact 31 (f := .cls "Deal") rfl), He.meth_ok (c.fact 32 (f := .meth "Deal" "fits") rfl), ok_Deal_fits T F_Deal_fits c_is_nights c_is_whole, F_Deal_fits.bindsN fun _ _ _ _ _ _ us hl => match us, hl with | [_], _ => rfl, .nil⟩
  have c_Fee_fits : Y.Met P w K mg base CX0 3 (He.ga K "Fee") "fits" (sp_Fee_fits K) [] := ⟨_, fd_Fee_fits, ["self"], [], He.cls_ok (c.fact 33 (f := .cls "Fee") rfl), He.meth_ok (c.fact 34 (f := .meth "Fee" "fits") rfl), ok_Fee_fits T F_Fee_fits c_is_coins, F_Fee_fits.bindsN fun _ _ _ _ _ _ us hl => match us, hl with | [_], _ => rfl, .nil⟩
  have c_rule_of : Y.Cal P w K mg base CX0 5 "rule_of" (sp_rule_of K) [] := ⟨_, fd_rule_of, ["thing"], [], ok_rule_of T F_rule_of c_is_stretch c_made c_Price_fits c_Come_fits c_Go_fits c_Least_fits c_Most_fits c_Deal_fits c_Fee_fits, He.glo_ok X G (c.fact 35 (f := .glo "rule_of") rfl), F_rule_of.kp, F_rule_of.bindsN fun _ _ _ _ _ _ us hl => match us, hl with | [_], _ => rfl, .nil⟩
  have c_Price_word : Y.Met P w K mg base CX0 1 (He.ga K "Price") "word" (sp_Price_word K) [] := ⟨_, fd_Price_word, ["self"], [], He.cls_ok (c.fact 20 (f := .cls "Price") rfl), He.meth_ok (c.fact 36 (f := .meth "Price" "word") rfl), ok_Price_word T F_Price_word , F_Price_word.bindsN fun _ _ _ _ _ _ us hl => match us, hl with | [_], _ => rfl, .nil⟩
  have c_Come_word : Y.Met P w K mg base CX0 1 (He.ga K "Come") "word" (sp_Come_word K) [] := ⟨_, fd_Come_word, ["self"], [], He.cls_ok (c.fact 22 (f := .cls "Come") rfl), He.meth_ok (c.fact 37 (f := .meth "Come" "word") rfl), ok_Come_word T F_Come_word , F_Come_word.bindsN fun _ _ _ _ _ _ us hl => match us, hl with | [_], _ => rfl, .nil⟩
  have c_Go_word : Y.Met P w K mg base CX0 1 (He.ga K "Go") "word" (sp_Go_word K) [] := ⟨_, fd_Go_word, ["self"], [], He.cls_ok (c.fact 24 (f := .cls "Go") rfl), He.meth_ok (c.fact 38 (f := .meth "Go" "word") rfl), ok_Go_word T F_Go_word , F_Go_word.bindsN fun _ _ _ _ _ _ us hl => match us, hl with | [_], _ => rfl, .nil⟩
  have c_Least_word : Y.Met P w K mg base CX0 1 (He.ga K "Least") "word" (sp_Least_word K) [] := ⟨_, fd_Least_word, ["self"], [], He.cls_ok (c.fact 27 (f := .cls "Least") rfl), He.meth_ok (c.fact 39 (f := .meth "Least" "word") rfl), ok_Least_word T F_Least_word , F_Least_word.bindsN fun _ _ _ _ _ _ us hl => match us, hl with | [_], _ => rfl, .nil⟩
  have c_Most_word : Y.Met P w K mg base CX0 1 (He.ga K "Most") "word" (sp_Most_word K) [] := ⟨_, fd_Most_word, ["self"], [], He.cls_ok (c.fact 29 (f := .cls "Most") rfl), He.meth_ok (c.fact 40 (f := .meth "Most" "word") rfl), ok_Most_word T F_Most_word , F_Most_word.bindsN fun _ _ _ _ _ _ us hl => match us, hl with | [_], _ => rfl, .nil⟩
  have c_Deal_word : Y.Met P w K mg base CX0 1 (He.ga K "Deal") "word" (sp_Deal_word K) [] := ⟨_, fd_Deal_word, ["self"], [], He.cls_ok (c.fact 31 (f := .cls "Deal") rfl), He.meth_ok (c.fact 41 (f := .meth "Deal" "word") rfl), ok_Deal_word T F_Deal_word , F_Deal_word.bindsN fun _ _ _ _ _ _ us hl => match us, hl with | [_], _ => rfl, .nil⟩
  have c_Fee_word : Y.Met P w K mg base CX0 1 (He.ga K "Fee") "word" (sp_Fee_word K) [] := ⟨_, fd_Fee_word, ["self"], [], He.cls_ok (c.fact 33 (f := .cls "Fee") rfl), He.meth_ok (c.fact 42 (f := .meth "Fee" "word") rfl), ok_Fee_word T F_Fee_word , F_Fee_word.bindsN fun _ _ _ _ _ _ us hl => match us, hl with | [_], _ => rfl, .nil⟩
  obtain ⟨ds_c_Book, vs_c_Book, bs_c_Book⟩ := FunD.binds1 (ps := ["self", "rules"]) F_Book_init 2 1 (List.cons_ne_nil _ _) rfl fun _ _ _ _ _ _ _ us its hu hi => match us, its, hu, hi with | [_, _], [_], _, _ => ⟨_, rfl, rfl⟩
  have c_Book : Y.Mak P w K mg base CX0 6 "Book" (He.ga K "Book") (sp_Book_init K) [] := ⟨_, fd_Book_init, ["self", "rules"], ds_c_Book, He.mkr_ok (c.fact 43 (f := .mkr "Book") rfl), ok_Book_init T F_Book_init c_rule_of c_Price_word c_Come_word c_Go_word c_Least_word c_Most_word c_Deal_word c_Fee_word, He.glo_ok X G (c.fact 97 (f := .glo "Book") rfl), bs_c_Book, vs_c_Book⟩
  have c_Inn : Y.Mak P w K mg base CX0 8 "Inn" (He.ga K "Inn") (sp_Inn_init K) [] := ⟨_, fd_Inn_init, ["self", "rooms", "books"], [], He.mkr_ok (c.fact 44 (f := .mkr "Inn") rfl), ok_Inn_init T F_Inn_init c_Book, He.glo_ok X G (c.fact 102 (f := .glo "Inn") rfl), F_Inn_init.bindsN fun _ _ _ _ _ _ us hl => match us, hl with | [_, _, _], _ => rfl, .nil⟩
  have ce_NoRule : Y.XIn P w K mg base 1 "NoRule" "number" := ⟨_, fd_NoRule_init, ["self", "number"], oke_NoRule_init T F_NoRule_init, He.glo_ok X G (c.fact 45 (f := .glo "NoRule") rfl), F_NoRule_init.bindsN fun _ _ _ _ _ _ us hl => match us, hl with | [_, _], _ => rfl, (He.meth_ok (c.fact 46 (f := .meth "NoRule" "__init__") rfl)).at_, beq_iff_eq.mp (He.meth_ok (c.fact 46 (f := .meth "NoRule" "__init__") rfl)).fn⟩
  obtain ⟨ds_cx_Book, vs_cx_Book, bs_cx_Book⟩ := FunD.binds1 (ps := ["self", "rules"]) F_Book_init 2 1 (List.cons_ne_nil _ _) rfl fun _ _ _ _ _ _ _ us its hu hi => match us, its, hu, hi with | [_, _], [_], _, _ => ⟨_, rfl, rfl⟩
  have cx_Book : Y.Mak P w K mg base (L2.CX P w) 6 "Book" (He.ga K "Book") (spx_Book_init K) [] := ⟨_, fd_Book_init, ["self", "rules"], ds_cx_Book, He.mkr_ok (c.fact 43 (f := .mkr "Book") rfl), okx_Book_init T F_Book_init c_rule_of ce_NoRule c_Price_word c_Come_word c_Go_word c_Least_word c_Most_word c_Deal_word c_Fee_word, He.glo_ok X G (c.fact 97 (f := .glo "Book") rfl), bs_cx_Book, vs_cx_Book⟩
  have cx_Inn : Y.Mak P w K mg base (L2.CX P w) 8 "Inn" (He.ga K "Inn") (spx_Inn_init K) [] := ⟨_, fd_Inn_init, ["self", "rooms", "books"], [], He.mkr_ok (c.fact 44 (f := .mkr "Inn") rfl), okx_Inn_init T F_Inn_init cx_Book, He.glo_ok X G (c.fact 102 (f := .glo "Inn") rfl), F_Inn_init.bindsN fun _ _ _ _ _ _ us hl => match us, hl with | [_, _, _], _ => rfl, .nil⟩
  have c_Linn_told : Y.Cal P w K mg base CX0 10 "_law_inn_told" (sp_Linn_told K) [] := ⟨_, fd_Linn_told, ["_law_rooms", "_law_pairs"], [], ok_Linn_told T F_Linn_told cx_Inn, He.glo_ok X G (c.fact 47 (f := .glo "_law_inn_told") rfl), F_Linn_told.kp, F_Linn_told.bindsN fun _ _ _ _ _ _ us hl => match us, hl with | [_, _], _ => rfl, .nil⟩
  have c_Linn_refused : Y.Cal P w K mg base CX0 11 "_law_inn_refused" (sp_Linn_refused K) [] := ⟨_, fd_Linn_refused, ["_law_row", "_law_names_here"], [], ok_Linn_refused T F_Linn_refused c_Ltake c_Lsome c_Linn_told, He.glo_ok X G (c.fact 48 (f := .glo "_law_inn_refused") rfl), F_Linn_refused.kp, F_Linn_refused.bindsN fun _ _ _ _ _ _ us hl => match us, hl with | [_, _], _ => rfl, .nil⟩
  have c_dealt : Y.Cal P w K mg base CX0 1 "dealt" (sp_dealt K) [] := ⟨_, fd_dealt, ["stays"], [], ok_dealt T F_dealt , He.glo_ok X G (c.fact 49 (f := .glo "dealt") rfl), F_dealt.kp, F_dealt.bindsN fun _ _ _ _ _ _ us hl => match us, hl with | [_], _ => rfl, .nil⟩
  have c_Inn_rooms : Y.Met P w K mg base CX0 2 (He.ga K "Inn") "rooms" (sp_Inn_rooms K) [] := ⟨_, fd_Inn_rooms, ["self"], [], He.cls_ok (c.fact 50 (f := .cls "Inn") rfl), He.meth_ok (c.fact 51 (f := .meth "Inn" "rooms") rfl), ok_Inn_rooms T F_Inn_rooms c_dealt, F_Inn_rooms.bindsN fun _ _ _ _ _ _ us hl => match us, hl with | [_], _ => rfl, .nil⟩
  have c_nights_of : Y.Cal P w K mg base CX0 1 "nights_of" (sp_nights_of K) [] := ⟨_, fd_nights_of, ["stay"], [], ok_nights_of T F_nights_of , He.glo_ok X G (c.fact 52 (f := .glo "nights_of") rfl), F_nights_of.kp, F_nights_of.bindsN fun _ _ _ _ _ _ us hl => match us, hl with | [_], _ => rfl, .nil⟩
  have c_Inn_full : Y.Met P w K mg base CX0 2 (He.ga K "Inn") "full" (sp_Inn_full K) [] := ⟨_, fd_Inn_full, ["self"], [], He.cls_ok (c.fact 50 (f := .cls "Inn") rfl), He.meth_ok (c.fact 53 (f := .meth "Inn" "full") rfl), ok_Inn_full T F_Inn_full c_nights_of, F_Inn_full.bindsN fun _ _ _ _ _ _ us hl => match us, hl with | [_], _ => rfl, .nil⟩
  have c_Inn_standing : Y.Met P w K mg base CX0 1 (He.ga K "Inn") "standing" (sp_Inn_standing K) [] := ⟨_, fd_Inn_standing, ["self"], [], He.cls_ok (c.fact 50 (f := .cls "Inn") rfl), He.meth_ok (c.fact 54 (f := .meth "Inn" "standing") rfl), ok_Inn_standing T F_Inn_standing , F_Inn_standing.bindsN fun _ _ _ _ _ _ us hl => match us, hl with | [_], _ => rfl, .nil⟩
  have c_Inn_need_name : Y.Met P w K mg base CX0 1 (He.ga K "Inn") "need_name" (sp_Inn_need_name K) [] := ⟨_, fd_Inn_need_name, ["self", "name"], [], He.cls_ok (c.fact 50 (f := .cls "Inn") rfl), He.meth_ok (c.fact 55 (f := .meth "Inn" "need_name") rfl), ok_Inn_need_name T F_Inn_need_name , F_Inn_need_name.bindsN fun _ _ _ _ _ _ us hl => match us, hl with | [_, _], _ => rfl, .nil⟩
  have c_Price_told : Y.Met P w K mg base CX0 2 (He.ga K "Price") "told" (sp_Rule_told K) [] := ⟨_, fd_Price_told, ["self"], [], He.cls_ok (c.fact 20 (f := .cls "Price") rfl), He.meth_ok (c.fact 56 (f := .meth "Price" "told") rfl), ok_Rule_told T F_Price_told c_Price_word c_Come_word c_Go_word c_Least_word c_Most_word c_Deal_word c_Fee_word, F_Price_told.bindsN fun _ _ _ _ _ _ us hl => match us, hl with | [_], _ => rfl, .nil⟩
  have c_Come_told : Y.Met P w K mg base CX0 2 (He.ga K "Come") "told" (sp_Rule_told K) [] := ⟨_, fd_Come_told, ["self"], [], He.cls_ok (c.fact 22 (f := .cls "Come") rfl), He.meth_ok (c.fact 57 (f := .meth "Come" "told") rfl), ok_Rule_told T F_Come_told c_Price_word c_Come_word c_Go_word c_Least_word c_Most_word c_Deal_word c_Fee_word, F_Come_told.bindsN fun _ _ _ _ _ _ us hl => match us, hl with | [_], _ => rfl, .nil⟩
  have c_Go_told : Y.Met P w K mg base CX0 2 (He.ga K "Go") "told" (sp_Rule_told K) [] := ⟨_, fd_Go_told, ["self"], [], He.cls_ok (c.fact 24 (f := .cls "Go") rfl), He.meth_ok (c.fact 58 (f := .meth "Go" "told") rfl), ok_Rule_told T F_Go_told c_Price_word c_Come_word c_Go_word c_Least_word c_Most_word c_Deal_word c_Fee_word, F_Go_told.bindsN fun _ _ _ _ _ _ us hl => match us, hl with | [_], _ => rfl, .nil⟩
  have c_Least_told : Y.Met P w K mg base CX0 2 (He.ga K "Least") "told" (sp_Rule_told K) [] := ⟨_, fd_Least_told, ["self"], [], He.cls_ok (c.fact 27 (f := .cls "Least") rfl), He.meth_ok (c.fact 59 (f := .meth "Least" "told") rfl), ok_Rule_told T F_Least_told c_Price_word c_Come_word c_Go_word c_Least_word c_Most_word c_Deal_word c_Fee_word, F_Least_told.bindsN fun _ _ _ _ _ _ us hl => match us, hl with | [_], _ => rfl, .nil⟩
  have c_Most_told : Y.Met P w K mg base CX0 2 (He.ga K "Most") "told" (sp_Rule_told K) [] := ⟨_, fd_Most_told, ["self"], [], He.cls_ok (c.fact 29 (f := .cls "Most") rfl), He.meth_ok (c.fact 60 (f := .meth "Most" "told") rfl), ok_Rule_told T F_Most_told c_Price_word c_Come_word c_Go_word c_Least_word c_Most_word c_Deal_word c_Fee_word, F_Most_told.bindsN fun _ _ _ _ _ _ us hl => match us, hl with | [_], _ => rfl, .nil⟩
  have c_Deal_told : Y.Met P w K mg base CX0 2 (He.ga K "Deal") "told" (sp_Rule_told K) [] := ⟨_, fd_Deal_told, ["self"], [], He.cls_ok (c.fact 31 (f := .cls "Deal") rfl), He.meth_ok (c.fact 61 (f := .meth "Deal" "told") rfl), ok_Rule_told T F_Deal_told c_Price_word c_Come_word c_Go_word c_Least_word c_Most_word c_Deal_word c_Fee_word, F_Deal_told.bindsN fun _ _ _ _ _ _ us hl => match us, hl with | [_], _ => rfl, .nil⟩
  have c_Fee_told : Y.Met P w K mg base CX0 2 (He.ga K "Fee") "told" (sp_Rule_told K) [] := ⟨_, fd_Fee_told, ["self"], [], He.cls_ok (c.fact 33 (f := .cls "Fee") rfl), He.meth_ok (c.fact 62 (f := .meth "Fee" "told") rfl), ok_Rule_told T F_Fee_told c_Price_word c_Come_word c_Go_word c_Least_word c_Most_word c_Deal_word c_Fee_word, F_Fee_told.bindsN fun _ _ _ _ _ _ us hl => match us, hl with | [_], _ => rfl, .nil⟩
  have c_Book_rules : Y.Met P w K mg base CX0 3 (He.ga K "Book") "rules" (sp_Book_rules K) [] := ⟨_, fd_Book_rules, ["self"], [], He.cls_ok (c.fact 63 (f := .cls "Book") rfl), He.meth_ok (c.fact 64 (f := .meth "Book" "rules") rfl), ok_Book_rules T F_Book_rules c_Price_told c_Come_told c_Go_told c_Least_told c_Most_told c_Deal_told c_Fee_told, F_Book_rules.bindsN fun _ _ _ _ _ _ us hl => match us, hl with | [_], _ => rfl, .nil⟩
  have c_Inn_rules_of : Y.Met P w K mg base CX0 4 (He.ga K "Inn") "rules_of" (sp_Inn_rules_of K) [] := ⟨_, fd_Inn_rules_of, ["self", "name"], [], He.cls_ok (c.fact 50 (f := .cls "Inn") rfl), He.meth_ok (c.fact 65 (f := .meth "Inn" "rules_of") rfl), ok_Inn_rules_of T F_Inn_rules_of c_Inn_need_name c_Book_rules, F_Inn_rules_of.bindsN fun _ _ _ _ _ _ us hl => match us, hl with | [_, _], _ => rfl, .nil⟩
  have c_Inn_keep : Y.Met P w K mg base CX0 1 (He.ga K "Inn") "keep" (sp_Inn_keep K) [] := ⟨_, fd_Inn_keep, ["self"], [], He.cls_ok (c.fact 50 (f := .cls "Inn") rfl), He.meth_ok (c.fact 66 (f := .meth "Inn" "keep") rfl), ok_Inn_keep T F_Inn_keep , F_Inn_keep.bindsN fun _ _ _ _ _ _ us hl => match us, hl with | [_], _ => rfl, .nil⟩
  have cx_Inn_give_back : Y.Met P w K mg base (L2.CX P w) 2 (He.ga K "Inn") "give_back" (spx_Inn_give_back K) [] := ⟨_, fd_Inn_give_back, ["self", "number"], [], He.cls_ok (c.fact 50 (f := .cls "Inn") rfl), He.meth_ok (c.fact 67 (f := .meth "Inn" "give_back") rfl), okx_Inn_give_back T F_Inn_give_back c_is_whole c_Inn_keep, F_Inn_give_back.bindsN fun _ _ _ _ _ _ us hl => match us, hl with | [_, _], _ => rfl, .nil⟩
  have cx_Inn_need_name : Y.Met P w K mg base (L2.CX P w) 1 (He.ga K "Inn") "need_name" (spx_Inn_need_name K) [] := ⟨_, fd_Inn_need_name, ["self", "name"], [], He.cls_ok (c.fact 50 (f := .cls "Inn") rfl), He.meth_ok (c.fact 55 (f := .meth "Inn" "need_name") rfl), okx_Inn_need_name T F_Inn_need_name , F_Inn_need_name.bindsN fun _ _ _ _ _ _ us hl => match us, hl with | [_, _], _ => rfl, .nil⟩
  have cx_laid : Y.Cal P w K mg base (L2.CX P w) 8 "laid" (spx_laid K) [] := ⟨_, fd_laid, ["elder", "newer"], [], okx_laid T F_laid c_Book_rules cx_Book, He.glo_ok X G (c.fact 68 (f := .glo "laid") rfl), F_laid.kp, F_laid.bindsN fun _ _ _ _ _ _ us hl => match us, hl with | [_, _], _ => rfl, .nil⟩
  have cx_Inn_lay : Y.Met P w K mg base (L2.CX P w) 9 (He.ga K "Inn") "lay" (spx_Inn_lay K) [] := ⟨_, fd_Inn_lay, ["self", "name", "rules"], [], He.cls_ok (c.fact 50 (f := .cls "Inn") rfl), He.meth_ok (c.fact 69 (f := .meth "Inn" "lay") rfl), okx_Inn_lay T F_Inn_lay cx_Inn_need_name cx_laid cx_Book c_Inn_keep, F_Inn_lay.bindsN fun _ _ _ _ _ _ us hl => match us, hl with | [_, _, _], _ => rfl, .nil⟩
  have cx_Inn_tidy : Y.Met P w K mg base (L2.CX P w) 2 (He.ga K "Inn") "tidy" (spx_Inn_tidy K) [] := ⟨_, fd_Inn_tidy, ["self", "name"], [], He.cls_ok (c.fact 50 (f := .cls "Inn") rfl), He.meth_ok (c.fact 70 (f := .meth "Inn" "tidy") rfl), okx_Inn_tidy T F_Inn_tidy cx_Inn_need_name c_Inn_keep, F_Inn_tidy.bindsN fun _ _ _ _ _ _ us hl => match us, hl with | [_, _], _ => rfl, .nil⟩
  have cx_Inn_undo : Y.Met P w K mg base (L2.CX P w) 1 (He.ga K "Inn") "undo" (spx_Inn_undo K) [] := ⟨_, fd_Inn_undo, ["self"], [], He.cls_ok (c.fact 50 (f := .cls "Inn") rfl), He.meth_ok (c.fact 71 (f := .meth "Inn" "undo") rfl), okx_Inn_undo T F_Inn_undo , F_Inn_undo.bindsN fun _ _ _ _ _ _ us hl => match us, hl with | [_], _ => rfl, .nil⟩
  have c_Ldone : Y.Cal P w K mg base CX0 10 "_law_done" (sp_Ldone K) [] := ⟨_, fd_Ldone, ["_law_inn", "_law_deed"], [], ok_Ldone T F_Ldone cx_Inn_give_back cx_Inn_lay cx_Inn_tidy cx_Inn_undo, He.glo_ok X G (c.fact 72 (f := .glo "_law_done") rfl), F_Ldone.kp, F_Ldone.bindsN fun _ _ _ _ _ _ us hl => match us, hl with | [_, _], _ => rfl, .nil⟩
  have c_Lis_fresh : Y.Cal P w K mg base CX0 11 "_law_is_fresh" (sp_Lis_fresh K) [] := ⟨_, fd_Lis_fresh, ["_law_inn", "_law_pairs"], [], ok_Lis_fresh T F_Lis_fresh c_Inn_rooms c_Inn_full c_Inn_standing c_Inn_rules_of c_Ldone, He.glo_ok X G (c.fact 73 (f := .glo "_law_is_fresh") rfl), F_Lis_fresh.kp, F_Lis_fresh.bindsN fun _ _ _ _ _ _ us hl => match us, hl with | [_, _], _ => rfl, .nil⟩
  have cx_Inn_rules_of : Y.Met P w K mg base (L2.CX P w) 4 (He.ga K "Inn") "rules_of" (spx_Inn_rules_of K) [] := ⟨_, fd_Inn_rules_of, ["self", "name"], [], He.cls_ok (c.fact 50 (f := .cls "Inn") rfl), He.meth_ok (c.fact 65 (f := .meth "Inn" "rules_of") rfl), okx_Inn_rules_of T F_Inn_rules_of cx_Inn_need_name c_Book_rules, F_Inn_rules_of.bindsN fun _ _ _ _ _ _ us hl => match us, hl with | [_, _], _ => rfl, .nil⟩
  have c_Lno_name : Y.Cal P w K mg base CX0 11 "_law_no_name" (sp_Lno_name K) [] := ⟨_, fd_Lno_name, ["_law_inn", "_law_name"], [], ok_Lno_name T F_Lno_name cx_Inn_rules_of c_Ldone, He.glo_ok X G (c.fact 74 (f := .glo "_law_no_name") rfl), F_Lno_name.kp, F_Lno_name.bindsN fun _ _ _ _ _ _ us hl => match us, hl with | [_, _], _ => rfl, .nil⟩
  have c_Llaid_right : Y.Cal P w K mg base CX0 11 "_law_laid_right" (sp_Llaid_right K) [] := ⟨_, fd_Llaid_right, ["_law_row", "_law_inn", "_law_pairs"], [], ok_Llaid_right T F_Llaid_right c_Ltake c_Lsome c_Ldone c_Inn_rules_of, He.glo_ok X G (c.fact 75 (f := .glo "_law_laid_right") rfl), F_Llaid_right.kp, F_Llaid_right.bindsN fun _ _ _ _ _ _ us hl => match us, hl with | [_, _, _], _ => rfl, .nil⟩
  exact ok_law T F_law c_Lbegin c_Lnames c_Ltake c_Lsome c_Inn c_Linn_refused c_Lis_fresh c_Lno_name c_Llaid_right
end Y
theorem PySem.Challenge.cw_stayprice_k81_a_fresh_inn_holds : PySem.Challenge.rw_stayprice_k81_a_fresh_inn.Holds :=
  Y.early Y.sp_law (fun K m0 H a ns hl _ hS => by
    obtain ⟨m1, x0⟩ := Bool.and_eq_true_iff.mp m0
    obtain ⟨m2, x1⟩ := Bool.and_eq_true_iff.mp m1
    obtain ⟨m3, x2⟩ := Bool.and_eq_true_iff.mp m2
    obtain ⟨m4, x3⟩ := Bool.and_eq_true_iff.mp m3
    obtain ⟨m5, x4⟩ := Bool.and_eq_true_iff.mp m4
    obtain ⟨m6, x5⟩ := Bool.and_eq_true_iff.mp m5
    obtain ⟨m7, x6⟩ := Bool.and_eq_true_iff.mp m6
    obtain ⟨m8, x7⟩ := Bool.and_eq_true_iff.mp m7
    exact ⟨_, rfl, m8, x7, x6, x5, x4, x3, x2, x1, x0, a, ns, rfl, hS, hl, fun _ => rfl⟩) Y.facts
