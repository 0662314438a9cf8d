import PyProof.Rows.All
import Wide.All
import OpenK.AllK
import Wide.FinOn
import HandS.Head0
import HandS.Head1
import HandS.Head2
import HandS.HeadEnd
import HandS.HeadHook1
import HandS.HeadHook2
import HandS.HeadHook3
import HandS.HeadHook4
import HandS.ExcInit
import KE.KTryMore
import OpenK.KCls
import HandS.Words
import KE.KStateDown
import HandS.ForMost
import HandS.ForExc
import HandS.Wide
import HandS.Conv
import HandS.IsInst
import HandS.Defaults
import HandS.Codes
import HandS.Flow
import PyProof.ReprRoads
import PyProof.EqLayable
import HandS.SortRule
import HandS.Walk
import HandS.SetFor
import HandS.SetKeys
import HandS.ExcOwn
import HandS.TryOnly
import HandS.WordsExc
import KE.KExcIs
import KE.KIsAll
import HandS.Dict
import KE.DataCmp
import KE.SortData
import KE.DatumOrd
import HandS.SortKw
import HandS.TupSets
import HandS.ListItems
import HandS.MapObj
import HandS.SortInts
import PyProof.ZipIter
import KE.KTurns
import HandS.More
import KE.KDictZip
import HandS.Zip
import PySem.Challenge.RW_stayprice_k79_undone_to_the_beginning
set_option Elab.async false
set_option linter.all false
set_option maxRecDepth 100000
set_option maxHeartbeats 4000000
/-! YH: what is told of the classes at the head. -/
namespace Y
open PySem PySem.Spec PyProof.Rows L2
def ruleCls : List Str := ["Price", "Come", "Go", "Least", "Most", "Deal", "Fee"]
def wordsL : List Str := ["price", "come", "go", "least", "most", "deal", "fee"]
def isiB (K : PySem.W.Frag) (x y : Str) (b : Bool) : Bool := decide (PySem.W.kitOne K (.ref (He.ga K x)) (.ref (He.ga K y)) = some b)
def tyB (K : PySem.W.Frag) (C : Addr) : Bool := He.eqO (PySem.W.findIn K (.ref C) "__class__") (some (some (.builtin "object.__class__"))) && (He.eqO (PySem.W.specialIn K (.builtin "object.__class__") "__get__") (some (some (.builtin "getset_descriptor.__get__"))) && (decide (PySem.W.takesIn K (.builtin "object.__class__") = some true) && decide (PySem.W.mroIn K C (.type "object") = some true)))
/-- what the rules' classes are, told of K -/
def exRules (K : PySem.W.Frag) : Bool := (ruleCls.all fun x => (He.Fa.cls x).ok K && ((["first", "last", "worth"] : List Str).all (fun f => (He.Fa.noat x f).ok K) && (tyB K (He.ga K x) && isiB K x "Rule" true))) &&
  ((ruleCls.all fun x => ruleCls.all fun y => isiB K x y (decide (x = y))) && He.tupB K "WORDS" (wordsL.map He.Dv.str))
def exBook (K : PySem.W.Frag) : Bool := (He.Fa.cls "Book").ok K && ((["kept", "newest"] : List Str).all (fun f => (He.Fa.noat "Book" f).ok K) && (tyB K (He.ga K "Book") && isiB K "Book" "Book" true))
def exInn (K : PySem.W.Frag) : Bool := (He.Fa.cls "Inn").ok K && (["many", "shelf", "taken", "coming", "past"] : List Str).all fun f => (He.Fa.noat "Inn" f).ok K
def exFull (K : PySem.W.Frag) : Bool := (He.Fa.cls "FullBook").ok K && (["beneath", "nights"] : List Str).all fun f => (He.Fa.noat "FullBook" f).ok K
/-! errors -/
/-- the class x stands under y -/
def subE (x y : Str) : Bool := decide (x = y) || decide (y = "StayError")
/-- what is told of any error's class -/
def errB (K : PySem.W.Frag) (x : Str) : Bool := decide (PySem.W.findIn K (.ref (He.ga K x)) "__getattribute__" = some (some (.builtin "BaseException.__getattribute__"))) && (decide (PySem.W.findIn K (.ref (He.ga K x)) "__getattr__" = some none) &&
  (decide (PySem.W.subIn K (.ref (He.ga K x)) (.type "BaseException") = some true) && (PySem.W.hasDictIn K (He.ga K x) && (tyB K (He.ga K x) && (decide (PySem.W.typeIn K (.ref (He.ga K x)) = some (.type "type")) && (PySem.W.keepIn K (.ref (He.ga K x)) && PySem.W.isClsIn K (He.ga K x)))))))
/-- the errors L, and StayError: which stands under which -/
def exErrs (L : List Str) (K : PySem.W.Frag) : Bool := L.all fun x => errB K x && (decide (PySem.W.kitOne K (.ref (He.ga K x)) (.type "ValueError") = some true) &&
  ((("StayError" : Str) :: L).all fun y => (He.Fa.exm x y (subE x y)).ok K && isiB K x y (subE x y)))
/-- an error's class without own __init__ -/
def exBare (x : Str) (K : PySem.W.Frag) : Bool := PySem.W.excIn K (He.ga K x) He.veBase "ValueError.__new__" && errB K x
def oexB (K : PySem.W.Frag) (C : Addr) : Bool := match K.lookup C with
  | some ⟨.type "type", _, .cls cd, sl⟩ => (match cd.mro, sl.toList with
    | .ref C' :: bm, [_, _, _, _, some (.builtin n), _] => C' == C && (n == "ValueError.__new__" && (!cd.hasDel && (cd.hasDict && PySem.HandSPX.refsVE bm)))
    | _, _ => false)
  | _ => false
/-- StayError.__init__ is ValueError's -/
def exStay (K : PySem.W.Frag) : Bool := PySem.W.readsIn K (He.ga K "StayError") (.type "type") && (decide (PySem.W.specialIn K (.ref (He.ga K "StayError")) "__getattribute__" = some (some (.builtin "type.__getattribute__"))) &&
  (match PySem.W.findCls K (.ref (He.ga K "StayError")) (.type "type") "__init__" with
  | some (.val (.builtin n)) => decide (n = "ValueError.__init__")
  | _ => false))
/-- an error's class whose __init__ calls StayError's and writes the field f -/
def exInit (x f : Str) (K : PySem.W.Frag) : Bool := exStay K && (oexB K (He.ga K x) && (decide (PySem.W.findIn K (.ref (He.ga K x)) "__setattr__" = some (some (.builtin "object.__setattr__"))) && (decide (PySem.W.findIn K (.ref (He.ga K x)) f = some none) && errB K x)))
def exHind (K : PySem.W.Frag) : Bool := He.tupB K "HINDERING" (((["price", "come", "go", "least", "most"] : List Str)).map He.Dv.str)
/-! the head's hook: what the names reach, and the table of statics (a class's attributes are looked up there) -/
abbrev AlY : Type := He.AlD × Bool
def asY (g : Addr → Option Obj) (n : Nat) : List Addr := He.asD g n ++ [cStatics]
def obsY (n : Nat) (fa : List He.Fa) (fn : List He.DefD) (ex : PySem.W.Frag → Bool) (g : Addr → Option Obj) : AlY := (He.obsD fa fn (He.frG g (asY g n)), ex (He.frG g (asY g n)))
def hookY (n : Nat) (fa : List He.Fa) (fn : List He.DefD) (ex : PySem.W.Frag → Bool) : PySem.W.Hook where
  α := AlY
  obs := fun s => obsY n fa fn ex s.heap.get?
  val := fun _ => (He.valD fn, true)
  says := fun _ h => ∃ K : PySem.W.Frag, K.In h ∧ He.SaysD fa fn K ∧ ex K = true
  of := fun _ _ e => ⟨_, He.frG_in, congrArg (fun z : AlY => z.1) e, congrArg (fun z : AlY => z.2) e⟩
  keeps := fun _ _ _ ⟨K, hK, c⟩ k => ⟨K, PySem.W.Frag.In.keeps hK k, c⟩
theorem obsY_eq {n : Nat} {fa : List He.Fa} {fn : List He.DefD} {ex : PySem.W.Frag → Bool} {g : Addr → Option Obj} {s : Shared} (h : ∀ a, g a = s.heap.get? a) : obsY n fa fn ex g = (hookY n fa fn ex).obs s := by
  have e : g = s.heap.get? := funext h
  rw [e] <;> rfl
/-! the run's equation, by parts: each a check of its own -/
open HandSHeadRun in
def RunA (r : PySem.W.OpenRow) (q : Program) (M : Nat) (loose : List PySem.Str) (w : World) : Prop :=
  ∀ os : OsState, (endF (stepQ (denQ tabQ) r.prog w) M r.prog w os).map (fun s => (looksF r.prog (PySem.W.boot_heap w.params) s.abs, HandSHeadRun.seenQ q loose (PySem.importedModules r.prog.main.body) (fun s => PySem.W.xlAt q [] s && PySem.W.recOk r.toRowW.records s) s.abs)) = some (true, PySem.W.openGood q loose)
abbrev KT (n : Nat) (s : PySem.W.SharedT) : PySem.W.Frag := He.frG (HandSHeadRun.getT s) (asY (HandSHeadRun.getT s) n)
open HandSHeadRun in
def RunB (r : PySem.W.OpenRow) (M : Nat) (n : Nat) (fa : List He.Fa) (ex : PySem.W.Frag → Bool) (w : World) : Prop :=
  ∀ os : OsState, (endF (stepQ (denQ tabQ) r.prog w) M r.prog w os).map (fun s => (fa.all fun f => f.ok (KT n s)) && ex (KT n s)) = some true
open HandSHeadRun in
def RunC (r : PySem.W.OpenRow) (M : Nat) (n : Nat) (fn : List He.DefD) (w : World) : Prop :=
  ∀ os : OsState, (endF (stepQ (denQ tabQ) r.prog w) M r.prog w os).map (fun s => (fn.all fun d => d.ok (KT n s), fn.map fun d => He.fnW (KT n s) d.at_)) = some (true, fn.map He.DefD.val)
theorem run_join {r : PySem.W.OpenRow} {q : Program} {M n : Nat} {loose : List PySem.Str} {fa : List He.Fa} {fn : List He.DefD} {ex : PySem.W.Frag → Bool} {w : World} (ra : RunA r q M loose w) (rb : RunB r M n fa ex w) (rc : RunC r M n fn w) :
    HandSHeadRun.RunEq r q (hookY n fa fn ex) (fun s => obsY n fa fn ex (HandSHeadRun.getT s)) M loose w := by
  intro os
  obtain ⟨s, hs, e1⟩ := Option.map_eq_some_iff.mp (ra os)
  obtain ⟨s2, hs2, e2⟩ := Option.map_eq_some_iff.mp (rb os)
  obtain ⟨s3, hs3, e3⟩ := Option.map_eq_some_iff.mp (rc os)
  rw [hs] at hs2 hs3
  cases hs2
  cases hs3
  rw [hs]
  obtain ⟨a1, a2⟩ := Prod.mk.inj e1
  obtain ⟨b1, b2⟩ := Bool.and_eq_true_iff.mp e2
  obtain ⟨c1, c2⟩ := Prod.mk.inj e3
  show some (_, _, (He.obsD fa fn (KT n s), ex (KT n s))) = some (true, _, (He.valD fn, true))
  unfold He.obsD He.valD
  rw [a1, a2, b1, b2, c1, c2]
  rfl
end Y
namespace YHd
open PySem PySem.Spec PyProof.Rows L2 Y
def top (i : Nat) : Stmt := PySem.Challenge.pw_stayprice_k79_undone_to_the_beginning.main.body.getD i (.Pass ⟨0, 0, 0, 0⟩)
abbrev s_Lbegin : Stmt := top 62
abbrev s_Lcell_at : Stmt := top 61
abbrev s_Ltake : Stmt := top 63
abbrev s_Lday : Stmt := top 67
abbrev s_Lcoins : Stmt := top 64
abbrev s_Lworth : Stmt := top 65
abbrev s_Lrule : Stmt := top 66
abbrev s_Lfew : Stmt := top 69
abbrev s_is_whole : Stmt := top 3
abbrev s_is_day : Stmt := top 4
abbrev s_is_two_days : Stmt := top 5
abbrev s_is_stretch : Stmt := top 6
abbrev s_Rule_init : Stmt := inClass (top 22) 0
abbrev s_made : Stmt := top 30
abbrev s_is_coins : Stmt := top 20
abbrev s_Price_fits : Stmt := inClass (top 23) 1
abbrev s_Come_fits : Stmt := inClass (top 24) 1
abbrev s_Go_fits : Stmt := inClass (top 25) 1
abbrev s_is_nights : Stmt := top 21
abbrev s_Least_fits : Stmt := inClass (top 26) 1
abbrev s_Most_fits : Stmt := inClass (top 27) 1
abbrev s_Deal_fits : Stmt := inClass (top 28) 1
abbrev s_Fee_fits : Stmt := inClass (top 29) 1
abbrev s_rule_of : Stmt := top 31
abbrev s_Price_word : Stmt := inClass (top 23) 0
abbrev s_Come_word : Stmt := inClass (top 24) 0
abbrev s_Go_word : Stmt := inClass (top 25) 0
abbrev s_Least_word : Stmt := inClass (top 26) 0
abbrev s_Most_word : Stmt := inClass (top 27) 0
abbrev s_Deal_word : Stmt := inClass (top 28) 0
abbrev s_Fee_word : Stmt := inClass (top 29) 0
abbrev s_Book_init : Stmt := inClass (top 35) 0
abbrev s_Inn_init : Stmt := inClass (top 59) 0
abbrev s_Inn_need_name : Stmt := inClass (top 59) 2
abbrev s_Rule_told : Stmt := inClass (top 22) 4
abbrev s_Book_rules : Stmt := inClass (top 35) 1
abbrev s_Inn_rules_of : Stmt := inClass (top 59) 13
abbrev s_nights_of : Stmt := top 7
abbrev s_Inn_full : Stmt := inClass (top 59) 3
abbrev s_Inn_standing : Stmt := inClass (top 59) 11
abbrev s_Lseen : Stmt := top 72
abbrev s_Lstay : Stmt := top 68
abbrev s_Ldeed : Stmt := top 70
abbrev s_Rule_tells : Stmt := inClass (top 22) 3
abbrev s_usual : Stmt := top 32
abbrev s_Book_tells_of : Stmt := inClass (top 35) 2
abbrev s_FullBook_tells_of : Stmt := inClass (top 58) 1
abbrev s_can_be_had : Stmt := top 41
abbrev s_marked : Stmt := top 38
abbrev s_bill : Stmt := top 39
abbrev s_coins_of : Stmt := top 42
abbrev s_parts_from : Stmt := top 44
abbrev s_ways : Stmt := top 45
abbrev s_paper_by : Stmt := top 47
abbrev s_cut_by : Stmt := top 46
abbrev s_best : Stmt := top 48
abbrev s_FullBook_init : Stmt := inClass (top 58) 0
abbrev s_Inn_books_now : Stmt := inClass (top 59) 4
abbrev s_Inn_best : Stmt := inClass (top 59) 5
abbrev s_Off_init : Stmt := inClass (top 12) 0
abbrev s_Inn_keep : Stmt := inClass (top 59) 1
abbrev s_Inn_take : Stmt := inClass (top 59) 6
abbrev s_Inn_give_back : Stmt := inClass (top 59) 7
abbrev s_NoRule_init : Stmt := inClass (top 10) 0
abbrev s_laid : Stmt := top 36
abbrev s_Inn_lay : Stmt := inClass (top 59) 8
abbrev s_bounds_of : Stmt := top 53
abbrev s_unlike : Stmt := top 55
abbrev s_tidied : Stmt := top 56
abbrev s_Inn_tidy : Stmt := inClass (top 59) 9
abbrev s_Inn_undo : Stmt := inClass (top 59) 10
abbrev s_Ldone : Stmt := top 71
abbrev s_Lplayed : Stmt := top 73
abbrev s_law : Stmt := top 74
/-! the head: facts by names, the run of the top -/
def d_Lbegin : He.DefD := ⟨("_law_begin", none), "_law_begin", "_law_begin", defArgs s_Lbegin, defBody s_Lbegin, defScope s_Lbegin, [], []⟩
def d_Lcell_at : He.DefD := ⟨("_law_cell_at", none), "_law_cell_at", "_law_cell_at", defArgs s_Lcell_at, defBody s_Lcell_at, defScope s_Lcell_at, [], []⟩
def d_Ltake : He.DefD := ⟨("_law_take", none), "_law_take", "_law_take", defArgs s_Ltake, defBody s_Ltake, defScope s_Ltake, [], []⟩
def d_Lday : He.DefD := ⟨("_law_day", none), "_law_day", "_law_day", defArgs s_Lday, defBody s_Lday, defScope s_Lday, [], []⟩
def d_Lcoins : He.DefD := ⟨("_law_coins", none), "_law_coins", "_law_coins", defArgs s_Lcoins, defBody s_Lcoins, defScope s_Lcoins, [], []⟩
def d_Lworth : He.DefD := ⟨("_law_worth", none), "_law_worth", "_law_worth", defArgs s_Lworth, defBody s_Lworth, defScope s_Lworth, [], []⟩
def d_Lrule : He.DefD := ⟨("_law_rule", none), "_law_rule", "_law_rule", defArgs s_Lrule, defBody s_Lrule, defScope s_Lrule, [], []⟩
def d_Lfew : He.DefD := ⟨("_law_few", none), "_law_few", "_law_few", defArgs s_Lfew, defBody s_Lfew, defScope s_Lfew, [], []⟩
def d_is_whole : He.DefD := ⟨("is_whole", none), "is_whole", "is_whole", defArgs s_is_whole, defBody s_is_whole, defScope s_is_whole, [], []⟩
def d_is_day : He.DefD := ⟨("is_day", none), "is_day", "is_day", defArgs s_is_day, defBody s_is_day, defScope s_is_day, [], []⟩
def d_is_two_days : He.DefD := ⟨("is_two_days", none), "is_two_days", "is_two_days", defArgs s_is_two_days, defBody s_is_two_days, defScope s_is_two_days, [], []⟩
def d_is_stretch : He.DefD := ⟨("is_stretch", none), "is_stretch", "is_stretch", defArgs s_is_stretch, defBody s_is_stretch, defScope s_is_stretch, [], []⟩
def d_Price_init : He.DefD := ⟨("Price", some "__init__"), "__init__", "Rule.__init__", defArgs s_Rule_init, defBody s_Rule_init, defScope s_Rule_init, [], []⟩
def d_Come_init : He.DefD := ⟨("Come", some "__init__"), "__init__", "Rule.__init__", defArgs s_Rule_init, defBody s_Rule_init, defScope s_Rule_init, [], []⟩
def d_Go_init : He.DefD := ⟨("Go", some "__init__"), "__init__", "Rule.__init__", defArgs s_Rule_init, defBody s_Rule_init, defScope s_Rule_init, [], []⟩
def d_Least_init : He.DefD := ⟨("Least", some "__init__"), "__init__", "Rule.__init__", defArgs s_Rule_init, defBody s_Rule_init, defScope s_Rule_init, [], []⟩
def d_Most_init : He.DefD := ⟨("Most", some "__init__"), "__init__", "Rule.__init__", defArgs s_Rule_init, defBody s_Rule_init, defScope s_Rule_init, [], []⟩
def d_Deal_init : He.DefD := ⟨("Deal", some "__init__"), "__init__", "Rule.__init__", defArgs s_Rule_init, defBody s_Rule_init, defScope s_Rule_init, [], []⟩
def d_Fee_init : He.DefD := ⟨("Fee", some "__init__"), "__init__", "Rule.__init__", defArgs s_Rule_init, defBody s_Rule_init, defScope s_Rule_init, [], []⟩
def d_made : He.DefD := ⟨("made", none), "made", "made", defArgs s_made, defBody s_made, defScope s_made, [], []⟩
def d_is_coins : He.DefD := ⟨("is_coins", none), "is_coins", "is_coins", defArgs s_is_coins, defBody s_is_coins, defScope s_is_coins, [], []⟩
def d_Price_fits : He.DefD := ⟨("Price", some "fits"), "fits", "Price.fits", defArgs s_Price_fits, defBody s_Price_fits, defScope s_Price_fits, [], []⟩
def d_Come_fits : He.DefD := ⟨("Come", some "fits"), "fits", "Come.fits", defArgs s_Come_fits, defBody s_Come_fits, defScope s_Come_fits, [], []⟩
def d_Go_fits : He.DefD := ⟨("Go", some "fits"), "fits", "Go.fits", defArgs s_Go_fits, defBody s_Go_fits, defScope s_Go_fits, [], []⟩
def d_is_nights : He.DefD := ⟨("is_nights", none), "is_nights", "is_nights", defArgs s_is_nights, defBody s_is_nights, defScope s_is_nights, [], []⟩
def d_Least_fits : He.DefD := ⟨("Least", some "fits"), "fits", "Least.fits", defArgs s_Least_fits, defBody s_Least_fits, defScope s_Least_fits, [], []⟩
def d_Most_fits : He.DefD := ⟨("Most", some "fits"), "fits", "Most.fits", defArgs s_Most_fits, defBody s_Most_fits, defScope s_Most_fits, [], []⟩
def d_Deal_fits : He.DefD := ⟨("Deal", some "fits"), "fits", "Deal.fits", defArgs s_Deal_fits, defBody s_Deal_fits, defScope s_Deal_fits, [], []⟩
def d_Fee_fits : He.DefD := ⟨("Fee", some "fits"), "fits", "Fee.fits", defArgs s_Fee_fits, defBody s_Fee_fits, defScope s_Fee_fits, [], []⟩
def d_rule_of : He.DefD := ⟨("rule_of", none), "rule_of", "rule_of", defArgs s_rule_of, defBody s_rule_of, defScope s_rule_of, [], []⟩
def d_Price_word : He.DefD := ⟨("Price", some "word"), "word", "Price.word", defArgs s_Price_word, defBody s_Price_word, defScope s_Price_word, [], []⟩
def d_Come_word : He.DefD := ⟨("Come", some "word"), "word", "Come.word", defArgs s_Come_word, defBody s_Come_word, defScope s_Come_word, [], []⟩
def d_Go_word : He.DefD := ⟨("Go", some "word"), "word", "Go.word", defArgs s_Go_word, defBody s_Go_word, defScope s_Go_word, [], []⟩
def d_Least_word : He.DefD := ⟨("Least", some "word"), "word", "Least.word", defArgs s_Least_word, defBody s_Least_word, defScope s_Least_word, [], []⟩
def d_Most_word : He.DefD := ⟨("Most", some "word"), "word", "Most.word", defArgs s_Most_word, defBody s_Most_word, defScope s_Most_word, [], []⟩
def d_Deal_word : He.DefD := ⟨("Deal", some "word"), "word", "Deal.word", defArgs s_Deal_word, defBody s_Deal_word, defScope s_Deal_word, [], []⟩
def d_Fee_word : He.DefD := ⟨("Fee", some "word"), "word", "Fee.word", defArgs s_Fee_word, defBody s_Fee_word, defScope s_Fee_word, [], []⟩
def d_Book_init : He.DefD := ⟨("Book", some "__init__"), "__init__", "Book.__init__", defArgs s_Book_init, defBody s_Book_init, defScope s_Book_init, [.non], []⟩
def d_Inn_init : He.DefD := ⟨("Inn", some "__init__"), "__init__", "Inn.__init__", defArgs s_Inn_init, defBody s_Inn_init, defScope s_Inn_init, [], []⟩
def d_Inn_need_name : He.DefD := ⟨("Inn", some "need_name"), "need_name", "Inn.need_name", defArgs s_Inn_need_name, defBody s_Inn_need_name, defScope s_Inn_need_name, [], []⟩
def d_Price_told : He.DefD := ⟨("Price", some "told"), "told", "Rule.told", defArgs s_Rule_told, defBody s_Rule_told, defScope s_Rule_told, [], []⟩
def d_Come_told : He.DefD := ⟨("Come", some "told"), "told", "Rule.told", defArgs s_Rule_told, defBody s_Rule_told, defScope s_Rule_told, [], []⟩
def d_Go_told : He.DefD := ⟨("Go", some "told"), "told", "Rule.told", defArgs s_Rule_told, defBody s_Rule_told, defScope s_Rule_told, [], []⟩
def d_Least_told : He.DefD := ⟨("Least", some "told"), "told", "Rule.told", defArgs s_Rule_told, defBody s_Rule_told, defScope s_Rule_told, [], []⟩
def d_Most_told : He.DefD := ⟨("Most", some "told"), "told", "Rule.told", defArgs s_Rule_told, defBody s_Rule_told, defScope s_Rule_told, [], []⟩
def d_Deal_told : He.DefD := ⟨("Deal", some "told"), "told", "Rule.told", defArgs s_Rule_told, defBody s_Rule_told, defScope s_Rule_told, [], []⟩
def d_Fee_told : He.DefD := ⟨("Fee", some "told"), "told", "Rule.told", defArgs s_Rule_told, defBody s_Rule_told, defScope s_Rule_told, [], []⟩
def d_Book_rules : He.DefD := ⟨("Book", some "rules"), "rules", "Book.rules", defArgs s_Book_rules, defBody s_Book_rules, defScope s_Book_rules, [], []⟩
def d_Inn_rules_of : He.DefD := ⟨("Inn", some "rules_of"), "rules_of", "Inn.rules_of", defArgs s_Inn_rules_of, defBody s_Inn_rules_of, defScope s_Inn_rules_of, [], []⟩
def d_nights_of : He.DefD := ⟨("nights_of", none), "nights_of", "nights_of", defArgs s_nights_of, defBody s_nights_of, defScope s_nights_of, [], []⟩
def d_Inn_full : He.DefD := ⟨("Inn", some "full"), "full", "Inn.full", defArgs s_Inn_full, defBody s_Inn_full, defScope s_Inn_full, [], []⟩
def d_Inn_standing : He.DefD := ⟨("Inn", some "standing"), "standing", "Inn.standing", defArgs s_Inn_standing, defBody s_Inn_standing, defScope s_Inn_standing, [], []⟩
def d_Lseen : He.DefD := ⟨("_law_seen", none), "_law_seen", "_law_seen", defArgs s_Lseen, defBody s_Lseen, defScope s_Lseen, [], []⟩
def d_Lstay : He.DefD := ⟨("_law_stay", none), "_law_stay", "_law_stay", defArgs s_Lstay, defBody s_Lstay, defScope s_Lstay, [], []⟩
def d_Ldeed : He.DefD := ⟨("_law_deed", none), "_law_deed", "_law_deed", defArgs s_Ldeed, defBody s_Ldeed, defScope s_Ldeed, [], []⟩
def d_Price_tells : He.DefD := ⟨("Price", some "tells"), "tells", "Rule.tells", defArgs s_Rule_tells, defBody s_Rule_tells, defScope s_Rule_tells, [], []⟩
def d_Come_tells : He.DefD := ⟨("Come", some "tells"), "tells", "Rule.tells", defArgs s_Rule_tells, defBody s_Rule_tells, defScope s_Rule_tells, [], []⟩
def d_Go_tells : He.DefD := ⟨("Go", some "tells"), "tells", "Rule.tells", defArgs s_Rule_tells, defBody s_Rule_tells, defScope s_Rule_tells, [], []⟩
def d_Least_tells : He.DefD := ⟨("Least", some "tells"), "tells", "Rule.tells", defArgs s_Rule_tells, defBody s_Rule_tells, defScope s_Rule_tells, [], []⟩
def d_Most_tells : He.DefD := ⟨("Most", some "tells"), "tells", "Rule.tells", defArgs s_Rule_tells, defBody s_Rule_tells, defScope s_Rule_tells, [], []⟩
def d_Deal_tells : He.DefD := ⟨("Deal", some "tells"), "tells", "Rule.tells", defArgs s_Rule_tells, defBody s_Rule_tells, defScope s_Rule_tells, [], []⟩
def d_Fee_tells : He.DefD := ⟨("Fee", some "tells"), "tells", "Rule.tells", defArgs s_Rule_tells, defBody s_Rule_tells, defScope s_Rule_tells, [], []⟩
def d_usual : He.DefD := ⟨("usual", none), "usual", "usual", defArgs s_usual, defBody s_usual, defScope s_usual, [], []⟩
def d_Book_tells_of : He.DefD := ⟨("Book", some "tells_of"), "tells_of", "Book.tells_of", defArgs s_Book_tells_of, defBody s_Book_tells_of, defScope s_Book_tells_of, [], []⟩
def d_FullBook_tells_of : He.DefD := ⟨("FullBook", some "tells_of"), "tells_of", "FullBook.tells_of", defArgs s_FullBook_tells_of, defBody s_FullBook_tells_of, defScope s_FullBook_tells_of, [], []⟩
def d_can_be_had : He.DefD := ⟨("can_be_had", none), "can_be_had", "can_be_had", defArgs s_can_be_had, defBody s_can_be_had, defScope s_can_be_had, [], []⟩
def d_marked : He.DefD := ⟨("marked", none), "marked", "marked", defArgs s_marked, defBody s_marked, defScope s_marked, [], []⟩
def d_bill : He.DefD := ⟨("bill", none), "bill", "bill", defArgs s_bill, defBody s_bill, defScope s_bill, [], []⟩
def d_coins_of : He.DefD := ⟨("coins_of", none), "coins_of", "coins_of", defArgs s_coins_of, defBody s_coins_of, defScope s_coins_of, [], []⟩
def d_parts_from : He.DefD := ⟨("parts_from", none), "parts_from", "parts_from", defArgs s_parts_from, defBody s_parts_from, defScope s_parts_from, [], []⟩
def d_ways : He.DefD := ⟨("ways", none), "ways", "ways", defArgs s_ways, defBody s_ways, defScope s_ways, [], []⟩
def d_paper_by : He.DefD := ⟨("paper_by", none), "paper_by", "paper_by", defArgs s_paper_by, defBody s_paper_by, defScope s_paper_by, [], []⟩
def d_cut_by : He.DefD := ⟨("cut_by", none), "cut_by", "cut_by", defArgs s_cut_by, defBody s_cut_by, defScope s_cut_by, [], []⟩
def d_best_cuts : He.DefD := ⟨("best_cuts", none), "best", "best", defArgs s_best, defBody s_best, defScope s_best, [], []⟩
def d_FullBook_init : He.DefD := ⟨("FullBook", some "__init__"), "__init__", "FullBook.__init__", defArgs s_FullBook_init, defBody s_FullBook_init, defScope s_FullBook_init, [], []⟩
def d_Inn_books_now : He.DefD := ⟨("Inn", some "books_now"), "books_now", "Inn.books_now", defArgs s_Inn_books_now, defBody s_Inn_books_now, defScope s_Inn_books_now, [], []⟩
def d_Inn_best : He.DefD := ⟨("Inn", some "best"), "best", "Inn.best", defArgs s_Inn_best, defBody s_Inn_best, defScope s_Inn_best, [], []⟩
def d_Off_init : He.DefD := ⟨("Off", some "__init__"), "__init__", "Off.__init__", defArgs s_Off_init, defBody s_Off_init, defScope s_Off_init, [], []⟩
def d_Inn_keep : He.DefD := ⟨("Inn", some "keep"), "keep", "Inn.keep", defArgs s_Inn_keep, defBody s_Inn_keep, defScope s_Inn_keep, [], []⟩
def d_Inn_take : He.DefD := ⟨("Inn", some "take"), "take", "Inn.take", defArgs s_Inn_take, defBody s_Inn_take, defScope s_Inn_take, [], []⟩
def d_Inn_give_back : He.DefD := ⟨("Inn", some "give_back"), "give_back", "Inn.give_back", defArgs s_Inn_give_back, defBody s_Inn_give_back, defScope s_Inn_give_back, [], []⟩
def d_NoRule_init : He.DefD := ⟨("NoRule", some "__init__"), "__init__", "NoRule.__init__", defArgs s_NoRule_init, defBody s_NoRule_init, defScope s_NoRule_init, [], []⟩
def d_laid : He.DefD := ⟨("laid", none), "laid", "laid", defArgs s_laid, defBody s_laid, defScope s_laid, [], []⟩
def d_Inn_lay : He.DefD := ⟨("Inn", some "lay"), "lay", "Inn.lay", defArgs s_Inn_lay, defBody s_Inn_lay, defScope s_Inn_lay, [], []⟩
def d_bounds_of : He.DefD := ⟨("bounds_of", none), "bounds_of", "bounds_of", defArgs s_bounds_of, defBody s_bounds_of, defScope s_bounds_of, [], []⟩
def d_unlike : He.DefD := ⟨("unlike", none), "unlike", "unlike", defArgs s_unlike, defBody s_unlike, defScope s_unlike, [], []⟩
def d_tidied : He.DefD := ⟨("tidied", none), "tidied", "tidied", defArgs s_tidied, defBody s_tidied, defScope s_tidied, [], []⟩
def d_Inn_tidy : He.DefD := ⟨("Inn", some "tidy"), "tidy", "Inn.tidy", defArgs s_Inn_tidy, defBody s_Inn_tidy, defScope s_Inn_tidy, [], []⟩
def d_Inn_undo : He.DefD := ⟨("Inn", some "undo"), "undo", "Inn.undo", defArgs s_Inn_undo, defBody s_Inn_undo, defScope s_Inn_undo, [], []⟩
def d_Ldone : He.DefD := ⟨("_law_done", none), "_law_done", "_law_done", defArgs s_Ldone, defBody s_Ldone, defScope s_Ldone, [], []⟩
def d_Lplayed : He.DefD := ⟨("_law_played", none), "_law_played", "_law_played", defArgs s_Lplayed, defBody s_Lplayed, defScope s_Lplayed, [], []⟩
def d_law : He.DefD := ⟨("law", none), "law", "law", defArgs s_law, defBody s_law, defScope s_law, [], []⟩
def fn : List He.DefD := d_Lbegin :: d_Lcell_at :: d_Ltake :: d_Lday :: d_Lcoins :: d_Lworth :: d_Lrule :: d_Lfew :: d_is_whole :: d_is_day :: d_is_two_days :: d_is_stretch :: d_Price_init :: d_Come_init :: d_Go_init :: d_Least_init :: d_Most_init :: d_Deal_init :: d_Fee_init :: d_made :: d_is_coins :: d_Price_fits :: d_Come_fits :: d_Go_fits :: d_is_nights :: d_Least_fits :: d_Most_fits :: d_Deal_fits :: d_Fee_fits :: d_rule_of :: d_Price_word :: d_Come_word :: d_Go_word :: d_Least_word :: d_Most_word :: d_Deal_word :: d_Fee_word :: d_Book_init :: d_Inn_init :: d_Inn_need_name :: d_Price_told :: d_Come_told :: d_Go_told :: d_Least_told :: d_Most_told :: d_Deal_told :: d_Fee_told :: d_Book_rules :: d_Inn_rules_of :: d_nights_of :: d_Inn_full :: d_Inn_standing :: d_Lseen :: d_Lstay :: d_Ldeed :: d_Price_tells :: d_Come_tells :: d_Go_tells :: d_Least_tells :: d_Most_tells :: d_Deal_tells :: d_Fee_tells :: d_usual :: d_Book_tells_of :: d_FullBook_tells_of :: d_can_be_had :: d_marked :: d_bill :: d_coins_of :: d_parts_from :: d_ways :: d_paper_by :: d_cut_by :: d_best_cuts :: d_FullBook_init :: d_Inn_books_now :: d_Inn_best :: d_Off_init :: d_Inn_keep :: d_Inn_take :: d_Inn_give_back :: d_NoRule_init :: d_laid :: d_Inn_lay :: d_bounds_of :: d_unlike :: d_tidied :: d_Inn_tidy :: d_Inn_undo :: d_Ldone :: d_Lplayed :: d_law :: []
def fa : List He.Fa := .glo "_law_begin" :: .glo "_law_cell_at" :: .glo "_law_take" :: .glo "_law_day" :: .glo "_law_coins" :: .glo "_law_worth" :: .glo "_law_rule" :: .glo "_law_few" :: .glo "is_whole" :: .glo "is_day" :: .glo "is_two_days" :: .glo "is_stretch" :: .mkr "Price" :: .mkr "Come" :: .mkr "Go" :: .mkr "Least" :: .mkr "Most" :: .mkr "Deal" :: .mkr "Fee" :: .glo "made" :: .glo "is_coins" :: .cls "Price" :: .meth "Price" "fits" :: .cls "Come" :: .meth "Come" "fits" :: .cls "Go" :: .meth "Go" "fits" :: .glo "is_nights" :: .cls "Least" :: .meth "Least" "fits" :: .cls "Most" :: .meth "Most" "fits" :: .cls "Deal" :: .meth "Deal" "fits" :: .cls "Fee" :: .meth "Fee" "fits" :: .glo "rule_of" :: .meth "Price" "word" :: .meth "Come" "word" :: .meth "Go" "word" :: .meth "Least" "word" :: .meth "Most" "word" :: .meth "Deal" "word" :: .meth "Fee" "word" :: .mkr "Book" :: .mkr "Inn" :: .cls "Inn" :: .meth "Inn" "need_name" :: .meth "Price" "told" :: .meth "Come" "told" :: .meth "Go" "told" :: .meth "Least" "told" :: .meth "Most" "told" :: .meth "Deal" "told" :: .meth "Fee" "told" :: .cls "Book" :: .meth "Book" "rules" :: .meth "Inn" "rules_of" :: .glo "nights_of" :: .meth "Inn" "full" :: .meth "Inn" "standing" :: .glo "_law_seen" :: .glo "_law_stay" :: .glo "_law_deed" :: .meth "Price" "tells" :: .meth "Come" "tells" :: .meth "Go" "tells" :: .meth "Least" "tells" :: .meth "Most" "tells" :: .meth "Deal" "tells" :: .meth "Fee" "tells" :: .glo "usual" :: .meth "Book" "tells_of" :: .cls "FullBook" :: .meth "FullBook" "tells_of" :: .glo "can_be_had" :: .glo "marked" :: .glo "bill" :: .glo "coins_of" :: .glo "parts_from" :: .glo "ways" :: .glo "paper_by" :: .glo "cut_by" :: .glo "best_cuts" :: .mkr "FullBook" :: .meth "Inn" "books_now" :: .meth "Inn" "best" :: .glo "Off" :: .meth "Off" "__init__" :: .meth "Inn" "keep" :: .meth "Inn" "take" :: .meth "Inn" "give_back" :: .glo "NoRule" :: .meth "NoRule" "__init__" :: .glo "laid" :: .meth "Inn" "lay" :: .glo "bounds_of" :: .glo "unlike" :: .glo "tidied" :: .meth "Inn" "tidy" :: .meth "Inn" "undo" :: .glo "_law_done" :: .glo "_law_played" :: .glo "law" :: .free "ValueError" :: .free "bool" :: .free "dict" :: .free "enumerate" :: .free "int" :: .free "isinstance" :: .free "len" :: .free "list" :: .free "max" :: .free "min" :: .free "range" :: .free "set" :: .free "sorted" :: .free "str" :: .free "sum" :: .free "tuple" :: .int "LAST_DAY" 1000000 :: .int "MOST_COINS" 1000000000000 :: .int "MOST_NIGHTS" 14 :: .int "MOST_RULES" 24 :: .glo "WORDS" :: .glo "Book" :: .glo "Come" :: .glo "Deal" :: .glo "Fee" :: .glo "FullBook" :: .glo "Go" :: .glo "Inn" :: .glo "Least" :: .glo "Most" :: .glo "NoDeed" :: .glo "NoName" :: .glo "NoTaken" :: .glo "Price" :: .glo "StayError" :: .glo "TooMany" :: []
def ex (K : PySem.W.Frag) : Bool := exRules K && exBook K && exErrs ["NoDeed", "NoName", "NoRule", "NoTaken", "NotSold", "Off", "TooMany"] K && exInit "NoRule" "number" K && exInit "Off" "days" K && exBare "TooMany" K && exBare "NoName" K && exBare "NoTaken" K && exBare "NoDeed" K && exInn K && exFull K
abbrev AlH := AlY
abbrev R : PySem.W.OpenRow := PySem.W.OpenLaw.row PySem.Challenge.rw_stayprice_k79_undone_to_the_beginning
abbrev hk : PySem.W.Hook := hookY 5 fa fn ex
def ob (s : PySem.W.SharedT) : AlH := obsY 5 fa fn ex (HandSHeadRun.getT s)
theorem ob_eq (s : PySem.W.SharedT) : ob s = hk.obs s.abs := obsY_eq (HandSHeadRun.getT_eq s)
def loose : List PySem.Str := "LAST_DAY" :: "MOST_NIGHTS" :: "is_whole" :: "is_day" :: "is_two_days" :: "is_stretch" :: "nights_of" :: "StayError" :: "NoRule" :: "NotSold" :: "Off" :: "TooMany" :: "NoName" :: "NoTaken" :: "NoDeed" :: "WORDS" :: "MOST_COINS" :: "is_coins" :: "is_nights" :: "Rule" :: "Price" :: "Come" :: "Go" :: "Least" :: "Most" :: "Deal" :: "Fee" :: "made" :: "rule_of" :: "usual" :: "MOST_RULES" :: "Book" :: "laid" :: "marked" :: "bill" :: "can_be_had" :: "coins_of" :: "parts_from" :: "ways" :: "cut_by" :: "paper_by" :: "best" :: "best_cuts" :: "dealt" :: "bounds_of" :: "unlike" :: "tidied" :: "FullBook" :: "Inn" :: "_law_cell_at" :: "_law_begin" :: "_law_take" :: "_law_coins" :: "_law_worth" :: "_law_rule" :: "_law_day" :: "_law_stay" :: "_law_few" :: "_law_deed" :: "_law_done" :: "_law_seen" :: "_law_played" :: []
theorem runA (w : World) : Y.RunA R (PySem.W.view R.prog [74]) 7500 loose w := by
  intro os
  kernel_rfl
theorem runB (w : World) : Y.RunB R 7500 5 fa ex w := by
  intro os
  kernel_rfl
theorem runC (w : World) : Y.RunC R 7500 5 fn w := by
  intro os
  kernel_rfl
theorem run (w : World) : HandSHeadRun.RunEq R (PySem.W.view R.prog [74]) hk ob 7500 loose w := Y.run_join (runA w) (runB w) (runC w)
end YHd
/-! Y0: short names of readings; promises by their number of arguments; heaps that grow; steps of a reading. -/
namespace Y
open PySem PySem.Spec PyProof.Rows L2

/-- nothing stands at p -/
def Fr (H : Hp) (p : Addr) : Prop := H p = none
/-! ### short names for the readings of operators and built-ins -/
abbrev rAdd : R2 := rI0 fun i j => .int (i + j)
abbrev rSub : R2 := rI0 fun i j => .int (i - j)
abbrev rMul : R2 := rI CMul fun i j => .int (i * j)
abbrev rPow : R2 := rI CPow fun i j => .int (i ^ j.toNat)
abbrev rMod : R2 := rI (fun _ j => 0 < j) fun i j => .int (i % j)
abbrev rDivW : R2 := rI CDivW fun i j => .int (i / j)
abbrev rLt : R2 := rI0 fun i j => .bl (decide (i < j))
abbrev rLe : R2 := rI0 fun i j => .bl (decide (i ≤ j))
abbrev rGt : R2 := rI0 fun i j => .bl (decide (j < i))
abbrev rGe : R2 := rI0 fun i j => .bl (decide (j ≤ i))
abbrev rIsN : R2 := fun x y H Q => y = .non ∧ Q (.bl (decide (x = .non))) H
abbrev rNotN : R2 := fun x y H Q => y = .non ∧ Q (.bl (!decide (x = .non))) H
abbrev rAddS : R2 := fun x y H Q => ∃ i j, x = .str i ∧ y = .str j ∧ i.length + j.length ≤ sizeLine ∧ Q (.str (i ++ j)) H
abbrev rNeg : V → Hp → VK → Prop := rU fun i => .int (-i)
abbrev rAbs : List V → Hp → VK → Prop := fun xs H Q => ∃ i, xs = [.int i] ∧ Q (.int (if i < 0 then -i else i)) H
abbrev rMax2 : List V → Hp → VK → Prop := fun xs H Q => ∃ i j, xs = [.int i, .int j] ∧ Q (.int (if j > i then j else i)) H
abbrev rMin2 : List V → Hp → VK → Prop := fun xs H Q => ∃ i j, xs = [.int i, .int j] ∧ Q (.int (if j < i then j else i)) H
abbrev rInt1 : List V → Hp → VK → Prop := fun xs H Q => (∃ i, xs = [.int i] ∧ Q (.int i) H) ∨ ∃ k, xs = [.bl k] ∧ Q (.int (if k then 1 else 0)) H
abbrev rLen (K : PySem.W.Frag) : List V → Hp → VK → Prop := fun xs H Q => ∃ p ys, xs = [.ref p] ∧ (SqL K H p ys ∨ SqT K H p ys) ∧ Q (.int ys.length) H
abbrev rLenS : List V → Hp → VK → Prop := fun xs H Q => ∃ z, xs = [.str z] ∧ z.length ≤ sizeLine ∧ Q (.int z.length) H
abbrev rLenA (K : PySem.W.Frag) : List V → Hp → VK → Prop := fun xs H Q => ∃ x n, xs = [x] ∧ LenV K x H n ∧ Q (.int n) H
abbrev rListOf (K : PySem.W.Frag) : List V → Hp → VK → Prop := fun xs H Q => ∃ p ys, xs = [.ref p] ∧ (SqL K H p ys ∨ SqT K H p ys) ∧ ∀ l, H l = none → Q (.ref l) (upd H l (.lst ys))
abbrev rTupOf (K : PySem.W.Frag) : List V → Hp → VK → Prop := fun xs H Q => ∃ p ys, xs = [.ref p] ∧ ((SqL K H p ys ∧ ∀ l, H l = none → Q (.ref l) (upd H l (.tup ys))) ∨ (SqT K H p ys ∧ Q (.ref p) H))
abbrev rInsert : V → List V → Hp → VK → Prop := fun x vs H Q => ∃ (l : Addr) (xs : List V) (i : Int) (y : V), x = .ref l ∧ vs = [.int i, y] ∧ H l = some (.lst xs) ∧ xs.length < sizeLine ∧ 0 ≤ i ∧ i < 2 ^ 63 ∧ Q .non (upd H l (.lst (xs.take i.toNat ++ [y] ++ xs.drop i.toNat)))
abbrev tTruth (K : PySem.W.Frag) (ta : TE) : TT := fun σ H Q => ta σ H fun x H1 => ∃ k, TruV K x H1 k ∧ Q k H1

/-! ### steps by what the reading is -/
section
variable {K : PySem.W.Frag} {σ : L2.St} {H : Hp} {Q : VK} {x y v : V} {i j : Int} {p : Addr} {xs : List V}
theorem g_c (q : Q v H) : tC v σ H Q := q
theorem g_op {r : R2} {ta tb : TE} (q : ta σ H fun x H1 => tb σ H1 fun y H2 => r x y H2 Q) : tOp r ta tb σ H Q := q
theorem g_un {r : V → Hp → VK → Prop} {ta : TE} (q : ta σ H fun x H1 => r x H1 Q) : tUn r ta σ H Q := q
theorem g_chain {r r' : R2} {ta tb tc : TE} (q : ta σ H fun x H1 => tb σ H1 fun y H2 => r x y H2 fun z H3 => ∃ k, z = .bl k ∧ (if k = true then tc σ H3 fun w' H4 => r' y w' H4 Q else Q (.bl false) H3)) : tChain r r' ta tb tc σ H Q := q
theorem g_tB {t : TE} {Q : Bool → Hp → Prop} (h : t σ H fun x H' => ∃ k, x = .bl k ∧ Q k H') : tB t σ H Q := h
theorem g_and {t u : TT} {Q : Bool → Hp → Prop} (h : t σ H fun c H1 => if c = true then u σ H1 Q else Q false H1) : tAnd t u σ H Q := h
theorem g_or {t u : TT} {Q : Bool → Hp → Prop} (h : t σ H fun c H1 => if c = true then Q true H1 else u σ H1 Q) : tOr t u σ H Q := h
theorem g_not {t : TT} {Q : Bool → Hp → Prop} (h : t σ H fun c H1 => Q (!c) H1) : tNot t σ H Q := h
theorem g_andV {ta tb : TE} (h : ta σ H fun x H1 => ∃ c, x = .bl c ∧ if c = true then tb σ H1 Q else Q (.bl false) H1) : tAndV ta tb σ H Q := h
theorem g_orV {ta tb : TE} (h : ta σ H fun x H1 => ∃ c, x = .bl c ∧ if c = true then Q (.bl true) H1 else tb σ H1 Q) : tOrV ta tb σ H Q := h
theorem g_notV {ta : TE} (h : ta σ H fun x H1 => ∃ c, x = .bl c ∧ Q (.bl (!c)) H1) : tNotV ta σ H Q := h
theorem g_if {t : TT} {ta tb : TE} (h : t σ H fun c H1 => if c = true then ta σ H1 Q else tb σ H1 Q) : tIf t ta tb σ H Q := h
theorem g_nil {Q : List V → Hp → Prop} (h : Q [] H) : tNil σ H Q := h
theorem g_cons {ta : TE} {tr : TA} {Q : List V → Hp → Prop} (h : ta σ H fun x H1 => tr σ H1 fun xs H2 => Q (x :: xs) H2) : tCons ta tr σ H Q := h
theorem g_tTup {t : TA} (h : t σ H fun xs H1 => xs.length ≤ sizeLine ∧ ∀ p, Fr H1 p → Q (.ref p) (upd H1 p (.tup xs))) : tTup t σ H Q := h
theorem g_tLst {t : TA} (h : t σ H fun xs H1 => xs.length ≤ sizeLine ∧ ∀ p, Fr H1 p → Q (.ref p) (upd H1 p (.lst xs))) : tLst t σ H Q := h
theorem g_cb {r : List V → Hp → VK → Prop} {t : TA} (h : t σ H fun vs H1 => r vs H1 Q) : tCB r t σ H Q := h
theorem g_call {sp : Sp} {dvs : List V} {E : XK} {t : TA} (h : t σ H fun vs H1 => sp (vs ++ dvs) H1 Q E) : tCall sp dvs E t σ H Q := h
theorem g_sl {r : V → Option Int → Option Int → Hp → VK → Prop} {te : TE} {tl th : TO} (h : te σ H fun x H1 => tl σ H1 fun l H2 => th σ H2 fun u H3 => r x l u H3 Q) : tSl r te tl th σ H Q := h
theorem g_wipe {a b : L2.St} {R : Prop} (h : a = b) (r : R) : a = b ∧ R := ⟨h, r⟩
theorem g_np {Q : Option Int → Hp → Prop} (h : Q none H) : tNoPart σ H Q := h
theorem g_pt {t : TE} {Q : Option Int → Hp → Prop} (h : t σ H fun x H1 => ∃ i, x = .int i ∧ Q (some i) H1) : tPart t σ H Q := h
theorem g_exI {R : Int → Prop} (q : R i) : ∃ i', V.int i = .int i' ∧ R i' := ⟨i, rfl, q⟩
theorem g_bm {T : String} {r : V → List V → Hp → VK → Prop} {to : TE} {t : TA} (h : to σ H fun x H1 => tyV K T x H1 ∧ t σ H1 fun xs H2 => r x xs H2 Q) : tBM K T r to t σ H Q := h
theorem g_bm0 {T : String} {r : V → List V → Hp → VK → Prop} {to : TE} (h : to σ H fun x H1 => tyV K T x H1 ∧ r x [] H1 Q) : tBM0 K T r to σ H Q := h
theorem g_tyL {R : Prop} (h : SqL K H p xs) (q : R) : tyV K "list" (.ref p) H ∧ R := ⟨.inl ⟨rfl, _, h⟩, q⟩
theorem g_yes {Q : Bool → Hp → Prop} (h : Q true H) : tYes σ H Q := h
theorem g_seq {t u : TS} {D : Ends} (h : t { D with nx := u D } σ H) : tSeq t u D σ H := h
theorem g_asg {te : TE} {g : TG} {D : Ends} (h : te σ H fun x H1 => g x σ H1 D.nx) : tAsg te g D σ H := h
theorem g_name {n : Nat} {Q : L2.St → Hp → Prop} (h : Q (σ.set n (some v)) H) : gName n v σ H Q := h
theorem g_sub {to ti : TE} {t : TSet} {Q : L2.St → Hp → Prop} (h : to σ H fun o H1 => ti σ H1 fun i H2 => t o i v H2 fun H3 => Q σ H3) : gSub to ti t v σ H Q := h
theorem g_gtup {n : Nat} {t : TGs} {Q : L2.St → Hp → Prop} (h : SqT K H p xs) (l : xs.length = n) (q : t xs σ H Q) : gTup K n t (.ref p) σ H Q := ⟨p, xs, rfl, h, l, q⟩
theorem g_gcons {t : TG} {u : TGs} {Q : L2.St → Hp → Prop} (h : t x σ H fun σ' H' => u xs σ' H' Q) : gCons t u (x :: xs) σ H Q := ⟨x, xs, rfl, h⟩
theorem g_gnil {Q : L2.St → Hp → Prop} (h : Q σ H) : gNil [] σ H Q := ⟨rfl, h⟩
theorem g_seqA {te : TE} {g : TG} {u : TS} {D : Ends} (h : tAsg te g { D with nx := u D } σ H) : tSeq (tAsg te g) u D σ H := h
theorem g_seqR {c : TT} {te : TE} {v u : TS} {D : Ends} (h : tIfS c (tRet te) v { D with nx := u D } σ H) : tSeq (tIfS c (tRet te) v) u D σ H := h
theorem g_seqD {te : TE} {u : TS} {D : Ends} (h : tDrop te { D with nx := u D } σ H) : tSeq (tDrop te) u D σ H := h
theorem g_seqF {wi : TI} {g : TG} {b u : TS} {D : Ends} (h : tFor wi g b { D with nx := u D } σ H) : tSeq (tFor wi g b) u D σ H := h
theorem g_seqW {c : TT} {b u : TS} {D : Ends} (h : tWhile c b { D with nx := u D } σ H) : tSeq (tWhile c b) u D σ H := h
theorem g_ifS {c : TT} {t u : TS} {D : Ends} (h : c σ H fun b H1 => if b = true then t D σ H1 else u D σ H1) : tIfS c t u D σ H := h
theorem g_ret {te : TE} {D : Ends} (h : te σ H D.rt) : tRet te D σ H := h
theorem g_drop {te : TE} {D : Ends} (h : te σ H fun _ H1 => D.nx σ H1) : tDrop te D σ H := h
theorem g_next {D : Ends} (h : D.nx σ H) : tNext D σ H := h
theorem g_lstRg {te : L2.St → Hp → (Int → Int → Hp → Prop) → Prop} (h : te σ H fun a b H1 => RgOk a b ∧ ∀ q, Fr H1 q → Q (.ref q) (upd H1 q (.lst (rgV a b)))) : tLstRg te σ H Q := h
theorem g_rg2 {ta tb : TE} {Q : Int → Int → Hp → Prop} (h : ta σ H fun x H1 => tb σ H1 fun y H2 => ∃ i j, x = .int i ∧ y = .int j ∧ Q i j H2) : tRg2 ta tb σ H Q := h
theorem g_exII {R : Int → Int → Prop} (q : R i j) : ∃ i' j', V.int i = .int i' ∧ V.int j = .int j' ∧ R i' j' := ⟨i, j, rfl, rfl, q⟩
theorem g_rng1 {ta : TA} {R : It → Hp → Prop} (h : ta σ H fun vs H1 => ∃ j : Int, vs = [.int j] ∧ -(2 ^ 62) ≤ j ∧ j < 2 ^ 62 ∧ R (Itr 0 j.toNat) H1) : iRng1 ta σ H R := h
theorem g_rng1b {R : Int → Prop} (a : -(2 ^ 62) ≤ i) (b : i < 2 ^ 62) (q : R i) : ∃ j : Int, [V.int i] = [.int j] ∧ -(2 ^ 62) ≤ j ∧ j < 2 ^ 62 ∧ R j := ⟨i, rfl, a, b, q⟩
theorem g_rng2 {ta : TA} {R : It → Hp → Prop} (h : ta σ H fun vs H1 => ∃ i j : Int, vs = [.int i, .int j] ∧ (-(2 ^ 62) ≤ i ∧ i < 2 ^ 62 ∧ -(2 ^ 62) ≤ j ∧ j < 2 ^ 62) ∧ R (Itr i (j - i).toNat) H1) : iRng2 ta σ H R := h
theorem g_rng2b {R : Int → Int → Prop} (a : -(2 ^ 62) ≤ i ∧ i < 2 ^ 62 ∧ -(2 ^ 62) ≤ j ∧ j < 2 ^ 62) (q : R i j) : ∃ i' j' : Int, [V.int i, V.int j] = [.int i', .int j'] ∧ (-(2 ^ 62) ≤ i' ∧ i' < 2 ^ 62 ∧ -(2 ^ 62) ≤ j' ∧ j' < 2 ^ 62) ∧ R i' j' := ⟨i, j, rfl, a, q⟩
theorem g_iList {tl : TE} {R : It → Hp → Prop} (h : tl σ H fun x H1 => ∃ a, x = .ref a ∧ (∃ xs, SqL K H1 a xs) ∧ R (Itl K a) H1) : iList K tl σ H R := h
theorem g_iListb {R : Addr → Prop} (h : SqL K H p xs) (q : R p) : ∃ a, V.ref p = .ref a ∧ (∃ xs, SqL K H a xs) ∧ R a := ⟨p, rfl, ⟨xs, h⟩, q⟩
theorem g_iTup {tl : TE} {R : It → Hp → Prop} (h : tl σ H fun x H1 => ∃ a, x = .ref a ∧ (∃ xs, SqT K H1 a xs) ∧ R (Itt K a) H1) : iTup K tl σ H R := h
theorem g_for {wi : TI} {g : TG} {tb : TS} {D : Ends} (h : wi σ H fun J H1 => ∃ W : Nat → Nat → L2.St → Hp → Prop, (∃ m, W 0 m σ H1) ∧ ∀ i m σ H, W i m σ H →
  (J.stop i H ∧ D.nx σ H) ∨ (J.go i H ∧ ∃ N : L2.St → Hp → Prop, (∀ σ' H', N σ' H' → ∃ m', m' < m ∧ W (i + 1) m' σ' H') ∧ ∀ x H', J.yld i H x H' → g x σ H' fun σ2 H2 => tb { D with nx := N, ct := N, bk := D.nx } σ2 H2)) : tFor wi g tb D σ H := h
theorem g_lc {wi : TI} {g : TG} {tt : TT} {te : TE} {vs : List Nat} (h : wi σ H fun J H1 => ∀ D, Fr H1 D → ∃ W : Nat → Nat → Hp → Prop, (∃ m, W 0 m (upd H1 D (.lst []))) ∧ ∀ i m H, W i m H →
  (J.stop i H ∧ Q (.ref D) H) ∨ (J.go i H ∧ ∃ Nx : Hp → Prop, (∀ H', Nx H' → ∃ m', m' < m ∧ W (i + 1) m' H') ∧ ∀ x H', J.yld i H x H' → g x (wipe σ vs) H' fun σ2 H2 => wipe σ2 vs = wipe σ vs ∧ tt σ2 H2 fun b H3 =>
    if b = true then te σ2 H3 fun y H4 => ∃ acc, H4 D = some (.lst acc) ∧ acc.length < sizeLine ∧ Nx (upd H4 D (.lst (acc ++ [y]))) else Nx H3)) : tLc wi g tt te vs σ H Q := h
theorem g_var {n : Nat} (h : σ[n]? = some (some v)) (q : Q v H) : tVar n σ H Q := ⟨v, h, q⟩
theorem g_rI0 {g : Int → Int → V} (q : Q (g i j) H) : rI0 g (.int i) (.int j) H Q := ⟨i, j, rfl, rfl, q⟩
theorem g_rI {C : Int → Int → Prop} {g : Int → Int → V} (c : C i j) (q : Q (g i j) H) : rI C g (.int i) (.int j) H Q := ⟨i, j, rfl, rfl, c, q⟩
theorem g_pow6 (q : Q (.int 1000000) H) : rPow (.int 10) (.int 6) H Q := ⟨10, 6, rfl, rfl, ⟨by decide, by decide, by decide⟩, q⟩
theorem g_pow12 (q : Q (.int 1000000000000) H) : rPow (.int 10) (.int 12) H Q := ⟨10, 12, rfl, rfl, ⟨by decide, by decide, by decide⟩, q⟩
theorem g_pow18 (q : Q (.int 1000000000000000000) H) : rPow (.int 10) (.int 18) H Q := ⟨10, 18, rfl, rfl, ⟨by decide, by decide, by decide⟩, q⟩
theorem g_eq (c : scal x y = true) (q : Q (.bl (decide (x = y))) H) : rEq x y H Q := ⟨c, q⟩
theorem g_ne (c : scal x y = true) (q : Q (.bl (!decide (x = y))) H) : rNe x y H Q := ⟨c, q⟩
theorem g_ixL (h : SqL K H p xs) (a : atI xs i = some v) (q : Q v H) : rIxL K (.ref p) (.int i) H Q := ⟨p, xs, i, v, rfl, rfl, h, a, q⟩
theorem g_ixT (h : SqT K H p xs) (a : atI xs i = some v) (q : Q v H) : rIxT K (.ref p) (.int i) H Q := ⟨p, xs, i, v, rfl, rfl, h, a, q⟩
theorem g_setL {Q : Hp → Prop} {n : Nat} (h : H p = some (.lst xs)) (a : ixN xs.length i = some n) (q : Q (upd H p (.lst (xs.set n v)))) : rSetL (.ref p) (.int i) v H Q := ⟨p, xs, i, n, rfl, rfl, h, a, q⟩
theorem g_len (h : SqL K H p xs ∨ SqT K H p xs) (q : Q (.int xs.length) H) : rLen K [.ref p] H Q := ⟨p, xs, rfl, h, q⟩
theorem g_test {t : TE} {Q : Bool → Hp → Prop} (h : t σ H fun x H' => ∃ k, x = .bl k ∧ Q k H') : tTest t σ H Q := h
theorem g_bl {R : Bool → Prop} {k : Bool} (q : R k) : ∃ k', V.bl k = .bl k' ∧ R k' := ⟨k, rfl, q⟩
theorem g_sz {n : Nat} {R : Prop} (z : n ≤ sizeLine) (q : R) : n ≤ sizeLine ∧ R := ⟨z, q⟩
theorem g_slL {lo hi : Option Int} (h : SqL K H p xs) (q : ∀ a, Fr H a → Q (.ref a) (upd H a (.lst (cutV xs lo hi)))) : rSlL K (.ref p) lo hi H Q := ⟨p, xs, rfl, h, q⟩
theorem g_listOf (h : SqL K H p xs ∨ SqT K H p xs) (q : ∀ a, Fr H a → Q (.ref a) (upd H a (.lst xs))) : rListOf K [.ref p] H Q := ⟨p, xs, rfl, h, q⟩
theorem g_append (h : H p = some (.lst xs)) (z : xs.length < sizeLine) (q : Q .non (upd H p (.lst (xs ++ [y])))) : rAppend (.ref p) [y] H Q := ⟨p, xs, y, rfl, rfl, h, z, q⟩
theorem g_isN (q : Q (.bl (decide (x = .non))) H) : rIsN x .non H Q := ⟨rfl, q⟩
theorem g_notN (q : Q (.bl (!decide (x = .non))) H) : rNotN x .non H Q := ⟨rfl, q⟩
theorem g_neg (q : Q (.int (-i)) H) : rNeg (.int i) H Q := ⟨i, rfl, q⟩
theorem g_max2 (q : Q (.int (if j > i then j else i)) H) : rMax2 [.int i, .int j] H Q := ⟨i, j, rfl, q⟩
theorem g_min2 (q : Q (.int (if j < i then j else i)) H) : rMin2 [.int i, .int j] H Q := ⟨i, j, rfl, q⟩
end
section
variable {K : PySem.W.Frag} {H : Hp} {Q : VK} {i : Int} {p : Addr} {xs : List V}
theorem g_isi_int_int  (q : Q (.bl true) H) : rIsi K [.int i, .ty "int"] H Q := ⟨_, _, .type "int", .type "int", true, rfl, .ty _, .base (.int i), kit_ty (by decide +kernel), q⟩
theorem g_isi_int_bool  (q : Q (.bl false) H) : rIsi K [.int i, .ty "bool"] H Q := ⟨_, _, .type "int", .type "bool", false, rfl, .ty _, .base (.int i), kit_ty (by decide +kernel), q⟩
theorem g_isi_int_str  (q : Q (.bl false) H) : rIsi K [.int i, .ty "str"] H Q := ⟨_, _, .type "int", .type "str", false, rfl, .ty _, .base (.int i), kit_ty (by decide +kernel), q⟩
theorem g_isi_int_tuple  (q : Q (.bl false) H) : rIsi K [.int i, .ty "tuple"] H Q := ⟨_, _, .type "int", .type "tuple", false, rfl, .ty _, .base (.int i), kit_ty (by decide +kernel), q⟩
theorem g_isi_bl_int {k : Bool} (q : Q (.bl true) H) : rIsi K [.bl k, .ty "int"] H Q := ⟨_, _, .type "bool", .type "int", true, rfl, .ty _, .base (.bl k), kit_ty (by decide +kernel), q⟩
theorem g_isi_bl_bool {k : Bool} (q : Q (.bl true) H) : rIsi K [.bl k, .ty "bool"] H Q := ⟨_, _, .type "bool", .type "bool", true, rfl, .ty _, .base (.bl k), kit_ty (by decide +kernel), q⟩
theorem g_isi_bl_str {k : Bool} (q : Q (.bl false) H) : rIsi K [.bl k, .ty "str"] H Q := ⟨_, _, .type "bool", .type "str", false, rfl, .ty _, .base (.bl k), kit_ty (by decide +kernel), q⟩
theorem g_isi_bl_tuple {k : Bool} (q : Q (.bl false) H) : rIsi K [.bl k, .ty "tuple"] H Q := ⟨_, _, .type "bool", .type "tuple", false, rfl, .ty _, .base (.bl k), kit_ty (by decide +kernel), q⟩
theorem g_isi_str_int {z : Str} (q : Q (.bl false) H) : rIsi K [.str z, .ty "int"] H Q := ⟨_, _, .type "str", .type "int", false, rfl, .ty _, .base (.str z), kit_ty (by decide +kernel), q⟩
theorem g_isi_str_bool {z : Str} (q : Q (.bl false) H) : rIsi K [.str z, .ty "bool"] H Q := ⟨_, _, .type "str", .type "bool", false, rfl, .ty _, .base (.str z), kit_ty (by decide +kernel), q⟩
theorem g_isi_str_str {z : Str} (q : Q (.bl true) H) : rIsi K [.str z, .ty "str"] H Q := ⟨_, _, .type "str", .type "str", true, rfl, .ty _, .base (.str z), kit_ty (by decide +kernel), q⟩
theorem g_isi_str_tuple {z : Str} (q : Q (.bl false) H) : rIsi K [.str z, .ty "tuple"] H Q := ⟨_, _, .type "str", .type "tuple", false, rfl, .ty _, .base (.str z), kit_ty (by decide +kernel), q⟩
theorem g_isi_non_int  (q : Q (.bl false) H) : rIsi K [.non, .ty "int"] H Q := ⟨_, _, .type "NoneType", .type "int", false, rfl, .ty _, .base .non, kit_ty (by decide +kernel), q⟩
theorem g_isi_non_bool  (q : Q (.bl false) H) : rIsi K [.non, .ty "bool"] H Q := ⟨_, _, .type "NoneType", .type "bool", false, rfl, .ty _, .base .non, kit_ty (by decide +kernel), q⟩
theorem g_isi_non_str  (q : Q (.bl false) H) : rIsi K [.non, .ty "str"] H Q := ⟨_, _, .type "NoneType", .type "str", false, rfl, .ty _, .base .non, kit_ty (by decide +kernel), q⟩
theorem g_isi_non_tuple  (q : Q (.bl false) H) : rIsi K [.non, .ty "tuple"] H Q := ⟨_, _, .type "NoneType", .type "tuple", false, rfl, .ty _, .base .non, kit_ty (by decide +kernel), q⟩
theorem g_isi_lst_int (h : H p = some (.lst xs)) (q : Q (.bl false) H) : rIsi K [.ref p, .ty "int"] H Q := ⟨_, _, .type "list", .type "int", false, rfl, .ty _, .base (.lst h), kit_ty (by decide +kernel), q⟩
theorem g_isi_lst_bool (h : H p = some (.lst xs)) (q : Q (.bl false) H) : rIsi K [.ref p, .ty "bool"] H Q := ⟨_, _, .type "list", .type "bool", false, rfl, .ty _, .base (.lst h), kit_ty (by decide +kernel), q⟩
theorem g_isi_lst_str (h : H p = some (.lst xs)) (q : Q (.bl false) H) : rIsi K [.ref p, .ty "str"] H Q := ⟨_, _, .type "list", .type "str", false, rfl, .ty _, .base (.lst h), kit_ty (by decide +kernel), q⟩
theorem g_isi_lst_tuple (h : H p = some (.lst xs)) (q : Q (.bl false) H) : rIsi K [.ref p, .ty "tuple"] H Q := ⟨_, _, .type "list", .type "tuple", false, rfl, .ty _, .base (.lst h), kit_ty (by decide +kernel), q⟩
theorem g_isi_tup_int (h : H p = some (.tup xs)) (q : Q (.bl false) H) : rIsi K [.ref p, .ty "int"] H Q := ⟨_, _, .type "tuple", .type "int", false, rfl, .ty _, .base (.tup h), kit_ty (by decide +kernel), q⟩
theorem g_isi_tup_bool (h : H p = some (.tup xs)) (q : Q (.bl false) H) : rIsi K [.ref p, .ty "bool"] H Q := ⟨_, _, .type "tuple", .type "bool", false, rfl, .ty _, .base (.tup h), kit_ty (by decide +kernel), q⟩
theorem g_isi_tup_str (h : H p = some (.tup xs)) (q : Q (.bl false) H) : rIsi K [.ref p, .ty "str"] H Q := ⟨_, _, .type "tuple", .type "str", false, rfl, .ty _, .base (.tup h), kit_ty (by decide +kernel), q⟩
theorem g_isi_tup_tuple (h : H p = some (.tup xs)) (q : Q (.bl true) H) : rIsi K [.ref p, .ty "tuple"] H Q := ⟨_, _, .type "tuple", .type "tuple", true, rfl, .ty _, .base (.tup h), kit_ty (by decide +kernel), q⟩
end
/-! ### promises by the number of arguments -/
abbrev Sp0 (p : Hp → VK → XK → Prop) : Sp := fun vs H Q E => vs = [] ∧ p H Q E
abbrev Sp1 (p : V → Hp → VK → XK → Prop) : Sp := fun vs H Q E => ∃ a, vs = [a] ∧ p a H Q E
abbrev Sp2 (p : V → V → Hp → VK → XK → Prop) : Sp := fun vs H Q E => ∃ a b, vs = [a, b] ∧ p a b H Q E
abbrev Sp3 (p : V → V → V → Hp → VK → XK → Prop) : Sp := fun vs H Q E => ∃ a b c, vs = [a, b, c] ∧ p a b c H Q E
abbrev Sp4 (p : V → V → V → V → Hp → VK → XK → Prop) : Sp := fun vs H Q E => ∃ a b c d, vs = [a, b, c, d] ∧ p a b c d H Q E
abbrev Sp5 (p : V → V → V → V → V → Hp → VK → XK → Prop) : Sp := fun vs H Q E => ∃ a b c d e, vs = [a, b, c, d, e] ∧ p a b c d e H Q E

/-! ### heaps: all but some places is kept -/
/-- all that stood stands, but what is at the places of L -/
def Kp (L : List Addr) (H H' : Hp) : Prop := ∀ a o, H a = some o → a ∉ L → H' a = some o
theorem Kp.refl (L : List Addr) (H : Hp) : Kp L H H := fun _ _ h _ => h
theorem Kp.trans {L : List Addr} {H H1 H2 : Hp} (a : Kp L H H1) (b : Kp L H1 H2) : Kp L H H2 := fun c o h n => b c o (a c o h n) n
theorem Same.kp {H H' : Hp} (a : Same H H') (L : List Addr) : Kp L H H' := fun c o e _ => a c o e
theorem same_new {H : Hp} {p : Addr} {o : HO} (h : Fr H p) : Same H (upd H p o) := fun b x e => by
  rw [upd_ne (ne_of_none e h)]
  exact e
theorem kp_upd {H : Hp} {p : Addr} {o : HO} {L : List Addr} (h : p ∈ L) : Kp L H (upd H p o) := fun b x e n => by
  rw [upd_ne fun z => n (by rw [z]; exact h)]
  exact e
theorem Kp.new {L : List Addr} {H H' : Hp} {p : Addr} {o : HO} (a : Kp L H H') (h : Fr H' p) : Kp L H (upd H' p o) := a.trans (Same.kp (same_new h) L)
/-- a place that H did not know may change -/
theorem Kp.own {L : List Addr} {H H' : Hp} {p : Addr} {o : HO} (a : Kp L H H') (h : Fr H p) : Kp L H (upd H' p o) := fun b x e n => by
  rw [upd_ne (ne_of_none e h)]
  exact a b x e n
theorem SqT.kp {K : PySem.W.Frag} {L : List Addr} {H H' : Hp} {a : Addr} {xs : List V} (k : Kp L H H') (n : a ∉ L) (h : SqT K H a xs) : SqT K H' a xs := by
  rcases h with (h | ⟨o, h⟩) | h
  · exact .inl (.inl (k _ _ h n))
  · exact .inl (.inr ⟨o, k _ _ h n⟩)
  · exact .inr h
theorem SqL.kp {K : PySem.W.Frag} {L : List Addr} {H H' : Hp} {a : Addr} {xs : List V} (k : Kp L H H') (n : a ∉ L) (h : SqL K H a xs) : SqL K H' a xs := by
  rcases h with (h | ⟨o, h⟩) | h
  · exact .inl (.inl (k _ _ h n))
  · exact .inl (.inr ⟨o, k _ _ h n⟩)
  · exact .inr h
theorem Same.seqT {K : PySem.W.Frag} {H H' : Hp} {a : Addr} {xs : List V} (e : Same H H') (h : SqT K H a xs) : SqT K H' a xs := SqT.kp (Same.kp e []) (by simp) h
theorem get_same {H H' : Hp} {p : Addr} {o : HO} (e : Same H H') (h : H p = some o) : H' p = some o := e p o h
theorem get_kp {L : List Addr} {H H' : Hp} {p : Addr} {o : HO} (e : Kp L H H') (h : H p = some o) (n : p ∉ L) : H' p = some o := e p o h n
theorem at_new {H : Hp} {p a : Addr} {o u : HO} (hp : Fr H p) (h : H a = some o) : upd H p u a = some o := by
  rw [upd_ne (ne_of_none h hp)]
  exact h
theorem at_ne {H : Hp} {p a : Addr} {o u : HO} (n : a ≠ p) (h : H a = some o) : upd H p u a = some o := by
  rw [upd_ne n]
  exact h
theorem ne_new' {H : Hp} {p a : Addr} {o : HO} (hp : Fr H p) (h : H a = some o) : p ≠ a := (ne_of_none h hp).symm
theorem sm_new {H H' : Hp} {p : Addr} {o : HO} (hp : Fr H' p) (h : Same H H') : Same H (upd H' p o) := h.trans (same_new hp)
theorem sm_tr {H H1 H2 : Hp} (h : Same H1 H2) (e : Same H H1) : Same H H2 := e.trans h
theorem sm_own {H H' : Hp} {p : Addr} {o : HO} (hp : Fr H p) (h : Same H H') : Same H (upd H' p o) := fun b x e => at_ne (ne_of_none e hp) (h b x e)
theorem fr_of {H H' : Hp} {p : Addr} (h : Fr H' p) (e : Same H H') : Fr H p := e.free h
theorem sql_new {K : PySem.W.Frag} {H : Hp} {p a : Addr} {o : HO} {xs : List V} (hp : Fr H p) (h : SqL K H a xs) : SqL K (upd H p o) a xs := Same.seq (same_new hp) h
theorem sql_same {K : PySem.W.Frag} {H H' : Hp} {a : Addr} {xs : List V} (e : Same H H') (h : SqL K H a xs) : SqL K H' a xs := Same.seq e h
theorem sqt_same {K : PySem.W.Frag} {H H' : Hp} {a : Addr} {xs : List V} (e : Same H H') (h : SqT K H a xs) : SqT K H' a xs := Same.seqT e h
theorem sq_or {K : PySem.W.Frag} {H : Hp} {p : Addr} {xs : List V} (h : H p = some (.lst xs)) : SqL K H p xs ∨ SqT K H p xs := .inl (SqL.of h)
theorem sq_orT {K : PySem.W.Frag} {H : Hp} {p : Addr} {xs : List V} (h : H p = some (.tup xs)) : SqL K H p xs ∨ SqT K H p xs := .inr (SqT.of h)
theorem atI_map {xs : List Int} {i : Int} {v : Int} (h : atI xs i = some v) : atI (xs.map V.int) i = some (V.int v) := by
  obtain ⟨j, h1, h2, h3, h4, h5⟩ := atI_get h
  unfold atI at h ⊢
  rw [List.length_map]
  cases e : ixN xs.length i with
  | none => rw [e] at h; cases h
  | some j =>
    rw [e] at h
    have h' : xs[j]? = some v := h
    show (xs.map V.int)[j]? = _
    rw [List.getElem?_map, h']
    rfl
theorem ite_t {c : Bool} {A B : Prop} (h : c = true) (x : A) : if c = true then A else B := by
  rw [if_pos h]
  exact x
theorem ite_f {c : Bool} {A B : Prop} (h : c = false) (x : B) : if c = true then A else B := by
  rw [h, if_neg Bool.false_ne_true]
  exact x
theorem ite_dt {p : Prop} [Decidable p] {A B : Prop} (h : p) (x : A) : if decide p = true then A else B := ite_t (decide_eq_true h) x
theorem ite_df {p : Prop} [Decidable p] {A B : Prop} (h : ¬ p) (x : B) : if decide p = true then A else B := ite_f (decide_eq_false h) x
theorem ite_b {c : Bool} {A B : Prop} (h1 : c = true → A) (h2 : c = false → B) : if c = true then A else B := by
  cases c with
  | true => rw [if_pos rfl]; exact h1 rfl
  | false => rw [if_neg Bool.false_ne_true]; exact h2 rfl
theorem ite_d {p : Prop} [Decidable p] {A B : Prop} (h1 : p → A) (h2 : ¬ p → B) : if decide p = true then A else B := ite_b (fun h => h1 (of_decide_eq_true h)) fun h => h2 (of_decide_eq_false h)
theorem ite_nt {A B : Prop} (x : B) : if (!true) = true then A else B := ite_f rfl x
theorem ite_nf {A B : Prop} (x : A) : if (!false) = true then A else B := ite_t rfl x
theorem ite_nd {p : Prop} [Decidable p] {A B : Prop} (h1 : p → B) (h2 : ¬ p → A) : if (!decide p) = true then A else B := ite_b (fun h => h2 (by simpa using h)) fun h => h1 (by simpa using h)
theorem ite_ndt {p : Prop} [Decidable p] {A B : Prop} (h : p) (x : B) : if (!decide p) = true then A else B := ite_f (by simpa using h) x
theorem ite_ndf {p : Prop} [Decidable p] {A B : Prop} (h : ¬ p) (x : A) : if (!decide p) = true then A else B := ite_t (by simpa using h) x
theorem int_eq {i j : Int} : decide (V.int i = V.int j) = decide (i = j) := by
  by_cases h : i = j
  · subst h; simp
  · simp [h]
theorem map_get {α : Type} {f : α → V} {ns : List α} {i : Nat} {y : V} (h : (ns.map f)[i]? = some y) : ∃ z, y = f z ∧ ns[i]? = some z := by
  rw [List.getElem?_map] at h
  cases e : ns[i]? with
  | none => rw [e] at h; cases h
  | some z => rw [e] at h; exact ⟨z, (Option.some.inj h).symm, rfl⟩
theorem cut_to {xs : List V} {n : Int} (h : 0 ≤ n) : cutV xs none (some n) = xs.take n.toNat := by
  obtain ⟨k, rfl⟩ : ∃ k : Nat, n = k := ⟨n.toNat, by omega⟩
  unfold cutV
  rw [HT.sIx_none, HT.sIx_nat]
  simp only [List.drop_zero, Nat.sub_zero, Int.toNat_natCast]
  rw [List.take_eq_take_iff]
  simp
theorem cut_from {xs : List V} {n : Int} (h : 0 ≤ n) : cutV xs (some n) none = xs.drop n.toNat := by
  obtain ⟨k, rfl⟩ : ∃ k : Nat, n = k := ⟨n.toNat, by omega⟩
  unfold cutV
  rw [HT.sIx_none, HT.sIx_nat]
  simp only [Int.toNat_natCast]
  by_cases hk : k ≤ xs.length
  · rw [Nat.min_eq_left hk, List.take_of_length_le (by rw [List.length_drop]; omega)]
  · rw [Nat.min_eq_right (by omega), List.drop_of_length_le (by omega), List.drop_of_length_le (by omega)]
    simp
theorem cut_mid {xs : List V} {n m : Int} (h : 0 ≤ n) (h' : 0 ≤ m) : cutV xs (some n) (some m) = (xs.take m.toNat).drop n.toNat := by
  obtain ⟨k, rfl⟩ : ∃ k : Nat, n = k := ⟨n.toNat, by omega⟩
  obtain ⟨l, rfl⟩ : ∃ l : Nat, m = l := ⟨m.toNat, by omega⟩
  unfold cutV
  rw [HT.sIx_nat, HT.sIx_nat]
  simp only [Int.toNat_natCast]
  rw [List.drop_take]
  by_cases hk : k ≤ xs.length
  · rw [Nat.min_eq_left hk, List.take_eq_take_iff]
    simp
    omega
  · rw [Nat.min_eq_right (show xs.length ≤ k by omega), List.drop_of_length_le (Nat.le_refl _), List.drop_of_length_le (by omega)]
    simp
theorem at_k0 {xs : List V} {v : V} (h : xs[0]? = some v) : atI xs 0 = some v := atI_nat (j := 0) h
theorem at_k1 {xs : List V} {v : V} (h : xs[1]? = some v) : atI xs 1 = some v := atI_nat (j := 1) h
theorem at_k2 {xs : List V} {v : V} (h : xs[2]? = some v) : atI xs 2 = some v := atI_nat (j := 2) h
theorem at_k3 {xs : List V} {v : V} (h : xs[3]? = some v) : atI xs 3 = some v := atI_nat (j := 3) h
theorem ix_k0 {n : Nat} (h : 0 < n) : ixN n 0 = some 0 := by
  unfold ixN
  simp
  omega
theorem ix_k1 {n : Nat} (h : 1 < n) : ixN n 1 = some 1 := by
  unfold ixN
  simp
  omega
/-- one of a written list's items -/
theorem pick {xs : List V} {i : Int} (h0 : 0 ≤ i) (h : i < xs.length) : ∃ v, atI xs i = some v ∧ v ∈ xs := by
  have hj : i.toNat < xs.length := by omega
  have e : ((i.toNat : Nat) : Int) = i := by omega
  exact ⟨xs[i.toNat], by
    have h := atI_nat (List.getElem?_eq_getElem hj)
    rwa [e] at h, List.getElem_mem hj⟩
theorem g_pick2 {K : PySem.W.Frag} {H : Hp} {Q : VK} {p : Addr} {a b w : Int} (h : SqL K H p [.int a, .int b]) (h0 : 0 ≤ w) (h1 : w < 2) (q : ∀ v : Int, v = a ∨ v = b → Q (.int v) H) : rIxL K (.ref p) (.int w) H Q := by
  obtain ⟨v, hv, hm⟩ := pick (xs := [.int a, .int b]) h0 h1
  simp only [List.mem_cons, List.not_mem_nil, or_false] at hm
  rcases hm with rfl | rfl <;> exact ⟨p, _, w, _, rfl, rfl, h, hv, q _ (by simp)⟩
theorem g_pick4 {K : PySem.W.Frag} {H : Hp} {Q : VK} {p : Addr} {a b c d w : Int} (h : SqL K H p [.int a, .int b, .int c, .int d]) (h0 : 0 ≤ w) (h1 : w < 4) (q : ∀ v : Int, v = a ∨ v = b ∨ v = c ∨ v = d → Q (.int v) H) : rIxL K (.ref p) (.int w) H Q := by
  obtain ⟨v, hv, hm⟩ := pick (xs := [.int a, .int b, .int c, .int d]) h0 h1
  simp only [List.mem_cons, List.not_mem_nil, or_false] at hm
  rcases hm with rfl | rfl | rfl | rfl <;> exact ⟨p, _, w, _, rfl, rfl, h, hv, q _ (by simp)⟩
theorem g_pick5 {K : PySem.W.Frag} {H : Hp} {Q : VK} {p : Addr} {a b c d e w : Int} (h : SqL K H p [.int a, .int b, .int c, .int d, .int e]) (h0 : 0 ≤ w) (h1 : w < 5) (q : ∀ v : Int, v = a ∨ v = b ∨ v = c ∨ v = d ∨ v = e → Q (.int v) H) : rIxL K (.ref p) (.int w) H Q := by
  obtain ⟨v, hv, hm⟩ := pick (xs := [.int a, .int b, .int c, .int d, .int e]) h0 h1
  simp only [List.mem_cons, List.not_mem_nil, or_false] at hm
  rcases hm with rfl | rfl | rfl | rfl | rfl <;> exact ⟨p, _, w, _, rfl, rfl, h, hv, q _ (by simp)⟩
theorem g_pick {K : PySem.W.Frag} {H : Hp} {Q : VK} {p : Addr} {xs : List V} {w : Int} (h : SqL K H p xs) (h0 : 0 ≤ w) (h1 : w < xs.length) (q : ∀ v, v ∈ xs → Q v H) : rIxL K (.ref p) (.int w) H Q := by
  obtain ⟨v, hv, hm⟩ := pick (xs := xs) h0 h1
  exact ⟨p, _, w, _, rfl, rfl, h, hv, q _ hm⟩
theorem kp_tr {L : List Addr} {H H1 H2 : Hp} (b : Kp L H1 H2) (a : Kp L H H1) : Kp L H H2 := a.trans b
theorem kp_own {L : List Addr} {H H' : Hp} {p : Addr} {o : HO} (hp : Fr H p) (a : Kp L H H') : Kp L H (upd H' p o) := Kp.own a hp
theorem kp_new {L : List Addr} {H H' : Hp} {p : Addr} {o : HO} (hp : Fr H' p) (a : Kp L H H') : Kp L H (upd H' p o) := Kp.new a hp
theorem fr_kp {L : List Addr} {H H' : Hp} {p : Addr} (h : Fr H' p) (e : Kp L H H') (n : p ∉ L) : Fr H p := by
  replace h : H' p = none := h
  cases hH : H p with
  | none => exact hH
  | some o => rw [e p o hH n] at h; cases h
theorem fr_new {H : Hp} {p q : Addr} {o : HO} (h : Fr (upd H q o) p) : Fr H p := by
  replace h : upd H q o p = none := h
  show H p = none
  by_cases e : p = q
  · rw [e, upd_same] at h; cases h
  · rwa [upd_ne e] at h
theorem g_extend {H : Hp} {Q : VK} {p b : Addr} {xs zs : List V} (h : H p = some (.lst xs)) (h2 : H b = some (.lst zs)) (z : xs.length + zs.length ≤ sizeLine) (q : Q .non (upd H p (.lst (xs ++ zs)))) : rExtend (.ref p) [.ref b] H Q := ⟨p, b, xs, zs, rfl, rfl, h, h2, z, q⟩
theorem g_lenA {K : PySem.W.Frag} {H : Hp} {Q : VK} {x : V} {n : Nat} (h : LenV K x H n) (q : Q (.int n) H) : rLenA K [x] H Q := ⟨x, n, rfl, h, q⟩
theorem g_cat {H : Hp} {Q : VK} {p b : Addr} {xs zs : List V} (h : H p = some (.lst xs)) (h2 : H b = some (.lst zs)) (z : xs.length + zs.length ≤ sizeLine) (q : ∀ l, Fr H l → Q (.ref l) (upd H l (.lst (xs ++ zs)))) : rCat (.ref p) (.ref b) H Q := ⟨p, b, xs, zs, rfl, rfl, h, h2, z, q⟩
theorem g_rng3 {σ : L2.St} {H : Hp} {ta : TA} {R : It → Hp → Prop} (h : ta σ H fun vs H1 => ∃ (i j c : Int) (n : Nat), vs = [.int i, .int j, .int c] ∧ RgC i j c n ∧ R (Itc i c n) H1) : iRng3 ta σ H R := h
theorem g_pickL {K : PySem.W.Frag} {H : Hp} {Q : VK} {p : Addr} {xs : List V} {w n : Int} (h : H p = some (.lst xs)) (h0 : 0 ≤ w) (h1 : w < n) (e : n = (xs.length : Nat)) (q : ∀ v, v ∈ xs → Q v H) : rIxL K (.ref p) (.int w) H Q := g_pick (SqL.of h) h0 (by rw [← e]; exact h1) q
/-! YG: defs that are only ever run while no display of a container goes on: what repr of lists and tuples wants. -/
open PySem PySem.Spec PyProof.Rows L2
/-- room, and no display under way -/
structure RoomG (k : Nat) (A : Around) : Prop where
  rm : Room k A
  no : A.guards = some []
theorem RoomG.mono {i k : Nat} {A : Around} (r : RoomG k A) (h : i ≤ k) : RoomG i A := ⟨r.rm.mono h, r.no⟩
theorem RoomG.deeper {k : Nat} {A : Around} (r : RoomG (k + 1) A) (v : Env) : RoomG k (A.deeper v) := ⟨r.rm.deeper v, r.no⟩
theorem RoomG.units {k : Nat} {A : Around} (r : RoomG k A) : A.units + 64 < cLine := r.rm.units
theorem make_guards {A : Around} {C : Addr} {us : List Value} : (A.under (.builtin "type.__call__" ⟨.ref C :: us, []⟩)).guards = A.guards := by
  have e : (Code.builtin "type.__call__" ⟨.ref C :: us, []⟩).guards = [] := by
    unfold Code.guards
    rw [if_neg]
    simp [Code.isGuard, guardIds]
  show pushGuards (Code.builtin "type.__call__" ⟨.ref C :: us, []⟩).guards A.guards = A.guards
  rw [e, pushGuards_eq]
  cases A.guards <;> simp
theorem RoomG.make {k : Nat} {A : Around} (r : RoomG (k + 1) A) (C : Addr) (us : List Value) : RoomG k (A.under (.builtin "type.__call__" ⟨.ref C :: us, []⟩)) := ⟨r.rm.make C us [], make_guards.trans r.no⟩
/-- a def keeps its promise wherever there is room and no display under way -/
structure FnG (P : Program) (w : World) (K : PySem.W.Frag) (mg : Str → Option Value) (base : Heap) (CX : CXT) (k : Nat) (f : Addr) (fd : FuncData) (ps : List Str) (sp : Sp) : Prop where
  len : ∀ vs H Q E, sp vs H Q E → vs.length = ps.length
  run : ∀ (A : Around) (outer : List Env) (s : Shared) (H : Hp) (args : Args) (us : List Value) (vs : List V) (Q : VK) (E : XK), RoomG k A → Env0 P w K mg base A outer s H → BindsTo s fd args (ps.zip us) → Vals vs us →
    sp vs H Q E → codeAny (model P w) A (.call (.ref f) args) (CR CX outer P w H s Q E) s
section
variable {X : Cx} {CX : CXT} {k : Nat} {f C : Addr} {fd : FuncData} {ps : List Str} {sp : Sp} {dvs : List V} {ds : List Value} {E : XK} {x m : Str} {p pos apos : Pos} {e o : Expr} {es : List Expr} {ta : TE} {t : TA} {pins : List (Addr × Obj)} {σ : L2.St} {H : Hp} {s : Shared} {Q : VK} {us : List Value} {vs : List V}
/-- the callee's run, from a body -/
theorem g_runs (F : FnG X.prog X.w X.K X.mg X.base CX k f fd ps sp) (room : RoomG k X.A) (bi : Binds X.K fd ps ds) (dv : Vals dvs ds) (pass : Passes CX X E) (I : Inv X pins σ H s) (rv : Vals vs us) (pr : sp (vs ++ dvs) H Q E) :
    wpAny (model X.prog X.w) X.A (call (.ref f) us) (EP X pins σ Q) X.xe s := by
  have whole := rv.append dv
  have n : (us ++ ds).length = ps.length := whole.length.symm.trans (F.len _ _ _ _ pr)
  refine wpAny_call (codeAny_mono (F.run _ _ _ _ _ _ _ _ _ room I.env0 (bi _ _ I.kIn n) whole pr) ?_)
  intro end_ s' h
  match end_, h with
  | .error _, h => exact pass _ _ _ _ _ _ I h
  | .ok (.ret _), h => exact I.after h
theorem g_pe_call (F : FnG X.prog X.w X.K X.mg X.base CX k f fd ps sp) (room : RoomG k X.A) (gl : Gl X x) (at_ : X.mg x = some (.ref f)) (kept : PySem.W.keepIn X.K (.ref f) = true) (bi : Binds X.K fd ps ds) (dv : Vals dvs ds) (pass : Passes CX X E) (args : PA X (e :: es) t)
    (nd : (x == ("__debug__" : Str)) = false := by decide) (st : starEach (e :: es) X.env = (false, eval e X.env) :: starEach es X.env := by rfl) (pl : (backTo pos (starEach es X.env)).any (·.1) = false := by rfl) :
    PE X (.Call (.Name x p) (e :: es) [] pos) (tCall sp dvs E t) := ⟨fun pins s σ H Q I h =>
  wpAny_Call_Name_kw (ld_glob I gl at_ (PySem.W.callWith_K (h₀ := X.base) I.ok.mod.kin kept (thn (args.run pos pins s σ H _ I h) fun _ _ ⟨_, _, I1, r, q⟩ => ⟨I1.kIn, g_runs F room bi dv pass I1 r q⟩) st pl) nd)⟩
theorem g_pe_meth {pl : Sem Bool} (ob : PE X o ta) (cl : Cls X.K C) (me : Meth X.K C m f) (F : FnG X.prog X.w X.K X.mg X.base CX k f fd ps sp) (room : RoomG k X.A) (bi : Binds X.K fd ps ds) (dv : Vals dvs ds) (pass : Passes CX X E) (args : PA X (e :: es) t)
    (st : starEach (e :: es) X.env = (false, eval e X.env) :: starEach es X.env := by rfl) (sp_ : (backTo pos (starEach es X.env)).any (·.1) = false := by rfl)
    (arm : eval (.Call (.Attribute o m apos) (e :: es) [] pos) X.env = (do
      let r ← eval o X.env
      standAt apos.atName
      let (g, first) ← holding [r] (getMethod r m pl)
      callWith pos g first (backTo pos (starEach (e :: es) X.env)) (backToKw pos (keywordEach [] X.env))) := by rfl) :
    PE X (.Call (.Attribute o m apos) (e :: es) [] pos) (tMeth C m sp dvs E ta t) := ⟨fun pins s σ H Q I h => by
  refine PySem.W.methodCall_KW (pl := pl) (thn (ob.run pins s σ H _ I h) ?_) arm
  rintro u s1 ⟨_, H1, I1, rx, a, dx, fs, rfl, at_, no, q⟩
  obtain rfl : u = Value.ref a := rx
  exact getmeth_ok I1 at_ cl me no (PySem.W.callWith_K (first := [.ref a]) (h₀ := X.base) I.ok.mod.kin me.kp (thn (args.run pos pins s1 σ H1 _ I1 q) fun us _ ⟨vs, _, I2, r, q2⟩ => ⟨I2.kIn, g_runs (us := .ref a :: us) (vs := .ref a :: vs) F room bi dv pass I2 (.cons rfl r) q2⟩) st sp_)⟩
theorem g_pe_meth0 {pl : Sem Bool} (ob : PE X o ta) (cl : Cls X.K C) (me : Meth X.K C m f) (F : FnG X.prog X.w X.K X.mg X.base CX k f fd ps sp) (room : RoomG k X.A) (bi : Binds X.K fd ps ds) (dv : Vals dvs ds) (pass : Passes CX X E)
    (arm : eval (.Call (.Attribute o m apos) [] [] pos) X.env = (do
      let r ← eval o X.env
      standAt apos.atName
      let (g, first) ← holding [r] (getMethod r m pl)
      callWith pos g first (backTo pos (starEach [] X.env)) (backToKw pos (keywordEach [] X.env))) := by rfl) :
    PE X (.Call (.Attribute o m apos) [] [] pos) (tMeth C m sp dvs E ta tNil) := ⟨fun pins s σ H Q I h => by
  refine PySem.W.methodCall_KW (pl := pl) (thn (ob.run pins s σ H _ I h) ?_) arm
  rintro u s1 ⟨_, H1, I1, rx, a, dx, fs, rfl, at_, no, q⟩
  obtain rfl : u = Value.ref a := rx
  exact getmeth_ok I1 at_ cl me no (PySem.W.callWith_K0 (first := [.ref a]) I1.kIn me.kp (g_runs (us := [.ref a]) (vs := [.ref a]) F room bi dv pass I1 (.cons rfl .nil) q))⟩
/-- a class is made -/
theorem g_makes (M : Mk X.K C f) (F : FnG X.prog X.w X.K X.mg X.base CX k f fd ps sp) (room : RoomG (k + 1) X.A) (bi : Binds X.K fd ps ds) (dv : Vals dvs ds) (pass : Passes CX X E) (I : Inv X pins σ H s) (rv : Vals vs us)
    (pr : ∀ x dx, H x = none → H dx = none → dx ≠ x → sp (.ref x :: (vs ++ dvs)) (upd (upd H dx (.own x)) x (.ins C dx [])) (fun v H2 => v = .non ∧ Q (.ref x) H2) E) :
    wpAny (model X.prog X.w) X.A (call (.ref C) us) (EP X pins σ Q) X.xe s := by
  have J := Inv.made (C := C) I
  have z := pr _ _ (I.hok.fresh (Nat.le_succ s.heap.objs.size)) (I.hok.fresh (Nat.le_refl s.heap.objs.size)) (Nat.ne_of_lt (Nat.lt_succ_self _))
  have whole : Vals (V.ref (s.heap.objs.size + 1) :: (vs ++ dvs)) (Value.ref (s.heap.objs.size + 1) :: (us ++ ds)) := .cons rfl (rv.append dv)
  have n : ((Value.ref (s.heap.objs.size + 1) :: us) ++ ds).length = ps.length := whole.length.symm.trans (F.len _ _ _ _ z)
  refine wpAny_call (make_map (f := f) I.kIn M.makes M.init (beq_iff_eq.mp M.fn) (codeAny_mono (F.run _ _ _ _ _ _ _ _ _ (room.make C us) (J.env0.make C us []) (bi _ _ J.kIn n) whole z) ?_))
  intro end_ s' h
  match end_, h with
  | .error _, h => exact pass _ _ _ _ _ _ J h
  | .ok (.ret _), h =>
    obtain ⟨v, H', J', rv', rfl, q'⟩ := J.after h
    exact ⟨rv', V.ref (s.heap.objs.size + 1), H', J', rfl, q'⟩
theorem g_pe_make (M : Mk X.K C f) (F : FnG X.prog X.w X.K X.mg X.base CX k f fd ps sp) (room : RoomG (k + 1) X.A) (gl : Gl X x) (at_ : X.mg x = some (.ref C)) (bi : Binds X.K fd ps ds) (dv : Vals dvs ds) (pass : Passes CX X E) (args : PA X (e :: es) t)
    (nd : (x == ("__debug__" : Str)) = false := by decide) (st : starEach (e :: es) X.env = (false, eval e X.env) :: starEach es X.env := by rfl) (pl : (backTo pos (starEach es X.env)).any (·.1) = false := by rfl) :
    PE X (.Call (.Name x p) (e :: es) [] pos) (tMake C sp dvs E t) := ⟨fun pins s σ H Q I h =>
  wpAny_Call_Name_kw (ld_glob I gl at_ (PySem.W.callWith_K (h₀ := X.base) I.ok.mod.kin M.kp (thn (args.run pos pins s σ H _ I h) fun _ _ ⟨_, _, I1, r, q⟩ => ⟨I1.kIn, g_makes M F room bi dv pass I1 r q⟩) st pl) nd)⟩
end
section
variable {P : Program} {w : World} {K : PySem.W.Frag} {mg : Str → Option Value} {base : Heap} {CX : CXT} {k : Nat} {x qual : Str} {params : Arguments} {body : List Stmt} {scope : Scope} {dvs : List V} {kws : List (Str × V)} {f : Addr} {fd : FuncData} {N ps : List Str} {sp : Sp}
/-- a def of the text keeps its promise, by its body -/
theorem g_def (F : FunD K x qual params body scope dvs kws f fd) (S : FnScope N ps scope) (len : ∀ vs H Q E, sp vs H Q E → vs.length = ps.length)
    (inside : ∀ (cdv : Value) (A : Around) (outer : List Env) (s : Shared) (H : Hp) (vs : List V) (Q : VK) (E : XK), RoomG k (A.deeper (envOfC qual scope s.heap.objs.size f cdv)) → sp vs H Q E →
      ∃ t, PSs (cxOf CX P w K mg base N qual scope f cdv A outer s H E) body t ∧ t { nx := fun _ H' => Q .non H', rt := Q } (start N vs) H) : FnG P w K mg base CX (k + 1) f fd ps sp where
  len := len
  run := fun A outer s H args us vs Q E room e0 bi rv pr => by
    obtain ⟨_, _, dV, kV, doc, pm, an, cdv, ct, _, rfl, stands, code, -, -⟩ := F.ex
    have n := len _ _ _ _ pr
    have bs := fun b o e => (e0.bs b o e).1
    have hK : K.In s.heap := e0.mod.kin.keeps bs
    have par : ∀ y ∈ ps.zip us, scope.names.lookup y.1 = some .local ∨ (scope.names.lookup y.1 = some .cell ∧ ((cellsFrom (s.heap.objs.size + 1) scope.names []).lookup y.1).isSome = true) := fun y hy =>
      (S.par y.1 (List.of_mem_zip (show (y.1, y.2) ∈ ps.zip us from hy)).1).imp id fun z => ⟨z, PySem.W.cellsFrom_some _ _ _ (.inl z)⟩
    refine codeAny_call_function room.rm.depth (hK _ _ stands) rfl S.co S.gen rfl (PySem.W.codeRec_of hK code) (bi _ _ _ _ (wpAny_newFunctionEnv_cells S.kind par ?_))
    rintro _ rfl s1 into
    refine ⟨(e0.mod.nolimit.keeps bs).keeps into.toInCall.keep, codeAny_func ?_⟩
    obtain ⟨t, reads, holds⟩ := inside cdv A outer s H vs Q E (room.deeper _) pr
    have I := inv_start (CX := CX) (E := E) (cd := cdv) S room.rm.hd e0 n rv into
    refine wpAny_mono (reads.run [] s1 (start N vs) H _ I holds) ?_ fun _ _ z => z
    intro fl s' z
    match fl, z with
    | .ret _, ⟨v, _, H', J, rr, q⟩ => exact ⟨v, H', J.os, J.bare, J.base, J.hok, rr, q⟩
    | .next, ⟨_, H', J, q⟩ => exact ⟨.non, H', J.os, J.bare, J.base, J.hok, rfl, q⟩
    | .brk, ⟨_, _, _, q⟩ => exact q.elim
    | .cont, ⟨_, _, _, q⟩ => exact q.elim
end
/-! ### the law's end -/
section
variable {P : Program} {w : World} {K : PySem.W.Frag} {mg mb : Str → Option Value} {CX : CXT} {k : Nat} {fa a : Addr} {fd : FuncData} {x : Str} {sp : Sp} {s₁ : Shared} {vs : List Value} {ns : List Int}
/-- the law's call, from an abstract heap that knows nothing but the script -/
theorem g_top {H : Hp} (KX : K.In s₁.heap) (hns : s₁.heap.Ns mainGlobals mg) (hb : s₁.heap.Ns builtinsNs mb) (hbb : ∀ x : Str, x ≠ "__name__" → mb x = bootBuiltins x) (hlim : s₁.heap.NoLimit) (hg : s₁.gens = #[])
    (ha : s₁.heap.get? a = some { cls := .type "list", data := .seq vs.toArray }) (room : RoomG k callerA)
    (F : ∀ base : Heap, K.In base → base.Ns mainGlobals mg → FnG P w K mg base CX k fa fd [x] sp) (bi : ∀ (s : Shared) (u : Value), BindsTo s fd ⟨[u], []⟩ [(x, u)])
    (pr : sp [.ref a] H (fun v _ => v = .bl true) fun _ _ _ => False) (no : ∀ e s', CX [] H s₁ (fun _ _ _ => False) e s' → False)
    (only : Only H) (ok : HOk P w H s₁.heap) (hA : ∀ b, H b ≠ none → b = a) (hK : H a ≠ none → K.lookup a = none) :
    codeAny (model P w) callerA (.call (.ref fa) ⟨[.ref a], []⟩) (fun r s' => r = .ok (.ret (.bool true)) ∧ OldK s₁.heap s'.heap ∧ s'.os = s₁.os ∧ AllBare s'.gens) s₁ := by
  have dictFree : ∀ {b : Addr} {o : Obj} {es : Array DictEntry} {n : Nat}, s₁.heap.get? b = some o → o.data = .dict es n → H b = none := by
    intro b o es n e d
    by_cases z : H b = none
    · exact z
    · obtain rfl := hA b z
      cases ha.symm.trans e
      cases d
  have space : ∀ {b : Addr} {m : Str → Option Value}, s₁.heap.Ns b m → (hidT s₁.heap H).Ns b m := by
    rintro b m ⟨o, es, n, e, d, rest⟩
    exact ⟨o, es, n, hidT_get e (dictFree e d), d, rest⟩
  have mine : K.In (hidT s₁.heap H) := by
    intro b o e
    refine hidT_get (KX b o e) ?_
    by_cases z : H b = none
    · exact z
    · obtain rfl := hA b z
      rw [hK z] at e
      cases e
  have lim : (hidT s₁.heap H).NoLimit := by
    obtain ⟨m, h1, h2⟩ := hlim
    exact ⟨m, space h1, h2⟩
  have e0 : Env0 P w K mg (hidT s₁.heap H) callerA [] s₁ H :=
    { frames := rfl, mod := ⟨mine, space hns, ⟨mb, space hb, hbb⟩, lim⟩, bs := fun _ _ e => of_hidT e, bsz := Nat.le_of_eq (hidT_size _ _), funs := trivial, frf := fun b z => absurd (show b ∈ ([] : List Addr) from z) (by simp), hok := ok, bare := .of_eq hg }
  refine codeAny_mono ((F _ mine (space hns)).run callerA [] s₁ H ⟨[.ref a], []⟩ [.ref a] [.ref a] _ _ room e0 (bi s₁ (.ref a)) (.cons rfl .nil) pr) ?_
  intro end_ s' z
  match end_, z with
  | .error _, z => exact (no _ _ z).elim
  | .ok (.ret u), ⟨v, H', os, bare, un, ok', rr, q⟩ =>
    obtain rfl : v = .bl true := q
    obtain rfl : u = Value.bool true := rr
    refine ⟨rfl, OldK.of_keep fun b o e => ?_, os, bare⟩
    rcases only b with z | ⟨ob, xs, z⟩
    · exact un.keep b o e z (fun y => absurd (show b ∈ ([] : List Addr) from y) (by simp)) (by simp)
    · obtain ⟨y1, -⟩ := ok b _ z
      obtain ⟨y2, -⟩ := ok' b _ (un.frzs b ob _ z)
      cases e.symm.trans y1
      exact y2
theorem g_law (KX : K.In s₁.heap) (hns : s₁.heap.Ns mainGlobals mg) (hb : s₁.heap.Ns builtinsNs mb) (hbb : ∀ x : Str, x ≠ "__name__" → mb x = bootBuiltins x) (hlim : s₁.heap.NoLimit) (hg : s₁.gens = #[])
    (ha : s₁.heap.get? a = some { cls := .type "list", data := .seq vs.toArray }) (hi : IntsAre vs ns) (hl : ns.length ≤ sizeLine) (room : RoomG k callerA)
    (F : ∀ base : Heap, K.In base → base.Ns mainGlobals mg → FnG P w K mg base CX k fa fd [x] sp) (bi : ∀ (s : Shared) (u : Value), BindsTo s fd ⟨[u], []⟩ [(x, u)])
    (pr : ∀ H : Hp, Only H → SqL K H a (ns.map V.int) → sp [.ref a] H (fun v _ => v = .bl true) fun _ _ _ => False) (no : ∀ H e s', CX [] H s₁ (fun _ _ _ => False) e s' → False) :
    codeAny (model P w) callerA (.call (.ref fa) ⟨[.ref a], []⟩) (fun r s' => r = .ok (.ret (.bool true)) ∧ OldK s₁.heap s'.heap ∧ s'.os = s₁.os ∧ AllBare s'.gens) s₁ := by
  have rv := vals_ints hi
  have n := hi.length
  rcases hk : K.lookup a with _ | o
  · let o0 : Obj := { cls := .type "list", data := .seq vs.toArray }
    let H : Hp := fun b => if b = a then some (.frz o0 (.lst (ns.map V.int))) else none
    have Ha : H a = some (.frz o0 (.lst (ns.map V.int))) := if_pos rfl
    have Hn : ∀ b, b ≠ a → H b = none := fun b z => if_neg z
    have only : Only H := fun b => if z : b = a then .inr ⟨o0, ns.map V.int, by rw [z]; exact Ha⟩ else .inl (Hn b z)
    refine g_top (H := H) KX hns hb hbb hlim hg ha room F bi (pr H only (.inl (.inr ⟨o0, Ha⟩))) (no H) only ?_ (fun b z => ?_) fun _ => hk
    · intro b u z
      by_cases y : b = a
      · subst y
        cases Ha.symm.trans z
        exact ⟨ha, by rw [List.length_map]; exact hl, vs, _, rv, ha⟩
      · cases (Hn b y).symm.trans z
    · by_cases y : b = a
      · exact y
      · exact absurd (Hn b y) z
  · cases (KX a o hk).symm.trans ha
    have only : Only fun _ => none := fun _ => .inl rfl
    exact g_top (H := fun _ => none) KX hns hb hbb hlim hg ha room F bi (pr _ only (.inr ⟨_, vs.toArray, _, hk, rfl, rfl, rfl, by rw [List.size_toArray, n]; exact hl, by simpa using rv⟩)) (no _) only (fun b u z => nomatch (show (none : Option HO) = some u from z)) (fun b z => absurd rfl z) fun z => absurd rfl z
end
/-- a law, of defs that are run while no display goes on -/
theorem g_walk {l : PySem.W.OpenLaw} {n k : Nat} {q : Program} {loose : List Str} {XP : (Str → Option Value) → Heap → Prop} {YP : World → Heap → Prop} {d : DefRec} {CX : CXT} {x : Str} (hn : l.most = some n) (hn2 : n ≤ sizeLine) (hdf : d.params.defaults = []) (room : Room k callerA)
    (F : ∀ (w : World) (mg : Str → Option Value) (fa : Addr) (h : Heap), YP w h → h.Ns mainGlobals mg → mg d.name = some (.ref fa) →
      ∃ (K : PySem.W.Frag) (fd : FuncData) (sp : Sp), K.In h ∧ (∀ (s : Shared) (u : Value), BindsTo s fd ⟨[u], []⟩ [(x, u)]) ∧
        (∀ (H : Hp) (a : Addr) (ns : List Int), ns.length ≤ n → Only H → SqL K H a (ns.map V.int) → sp [.ref a] H (fun v _ => v = .bl true) fun _ _ _ => False) ∧ ∀ base : Heap, K.In base → base.Ns mainGlobals mg → FnG l.prog w K mg base CX k fa fd [x] sp)
    (no : ∀ (H : Hp) (s : Shared) (e : Value) (s' : Shared), CX [] H s (fun _ _ _ => False) e s' → False) : PySem.W.WalkO q loose XP YP l.row.toRowW d [] (fun f vs => PySem.call f vs) := by
  refine Att.attach_call hn hdf ?_
  intro w s₀ s₁ mg mb fa o pm cd doc a vs ns G Y ho hd hcd hmg hobj hints hlen hg
  obtain ⟨K, fd, sp, KX, bi, pr, hF⟩ := F w mg fa _ Y G.T.g hmg
  exact g_law KX G.T.g G.T.b G.T.builtins G.T.nolimit hg hobj hints (Nat.le_trans hlen hn2) ⟨room, rfl⟩ hF bi (fun H => pr H a ns hlen) (fun H => no H s₁)
/-! ### repr of data -/
/-- repr(x) of data -/
def rReprD (K : PySem.W.Frag) : List V → Hp → VK → Prop := fun vs H Q => ∃ x d, vs = [x] ∧ Dp K H x d ∧ d.showable = true ∧ d.hasDict = false ∧ d.depth ≤ 60 ∧ d.shown.length ≤ sizeLine ∧ Q (.str d.shown) H
/-! ### a def that may be called by its name, a class that may be made, a method -/
structure Cal (P : Program) (w : World) (K : PySem.W.Frag) (mg : Str → Option Value) (base : Heap) (CX : CXT) (k : Nat) (x : Str) (sp : Sp) (dvs : List V) : Prop where
  ex : ∃ (f : Addr) (fd : FuncData) (ps : List Str) (ds : List Value), FnG P w K mg base CX k f fd ps sp ∧ mg x = some (.ref f) ∧ PySem.W.keepIn K (.ref f) = true ∧ Binds K fd ps ds ∧ Vals dvs ds
structure Mak (P : Program) (w : World) (K : PySem.W.Frag) (mg : Str → Option Value) (base : Heap) (CX : CXT) (k : Nat) (x : Str) (C : Addr) (sp : Sp) (dvs : List V) : Prop where
  ex : ∃ (f : Addr) (fd : FuncData) (ps : List Str) (ds : List Value), Mk K C f ∧ FnG P w K mg base CX k f fd ps sp ∧ mg x = some (.ref C) ∧ Binds K fd ps ds ∧ Vals dvs ds
structure Met (P : Program) (w : World) (K : PySem.W.Frag) (mg : Str → Option Value) (base : Heap) (CX : CXT) (k : Nat) (C : Addr) (m : Str) (sp : Sp) (dvs : List V) : Prop where
  ex : ∃ (f : Addr) (fd : FuncData) (ps : List Str) (ds : List Value), Cls K C ∧ Meth K C m f ∧ FnG P w K mg base CX k f fd ps sp ∧ Binds K fd ps ds ∧ Vals dvs ds
section
variable {X : Cx} {CX : CXT} {E : XK} {k j : Nat} {C : Addr} {x m : Str} {sp : Sp} {dvs : List V} {p pos apos : Pos} {e o : Expr} {es : List Expr} {ta : TE} {t : TA}
theorem pe_c (c : Cal X.prog X.w X.K X.mg X.base CX k x sp dvs) (hr : RoomG j X.A) (hk : k ≤ j) (hg : Gl X x) (hx : Passes CX X E) (ha : PA X (e :: es) t)
    (hdb : (x == ("__debug__" : Str)) = false := by decide) (he : starEach (e :: es) X.env = (false, eval e X.env) :: starEach es X.env := by rfl) (hpl : (backTo pos (starEach es X.env)).any (·.1) = false := by rfl) :
    PE X (.Call (.Name x p) (e :: es) [] pos) (tCall sp dvs E t) := by
  obtain ⟨f, fd, ps, ds, F, hm, kp, b, d⟩ := c.ex
  exact g_pe_call F (hr.mono hk) hg hm kp b d hx ha hdb he hpl
theorem pe_k (c : Mak X.prog X.w X.K X.mg X.base CX k x C sp dvs) (hr : RoomG j X.A) (hk : k + 1 ≤ j) (hg : Gl X x) (hx : Passes CX X E) (ha : PA X (e :: es) t)
    (hdb : (x == ("__debug__" : Str)) = false := by decide) (he : starEach (e :: es) X.env = (false, eval e X.env) :: starEach es X.env := by rfl) (hpl : (backTo pos (starEach es X.env)).any (·.1) = false := by rfl) :
    PE X (.Call (.Name x p) (e :: es) [] pos) (tMake C sp dvs E t) := by
  obtain ⟨f, fd, ps, ds, M, F, hm, b, d⟩ := c.ex
  exact g_pe_make M F (hr.mono hk) hg hm b d hx ha hdb he hpl
theorem pe_m {pl : Sem Bool} (c : Met X.prog X.w X.K X.mg X.base CX k C m sp dvs) (hr : RoomG j X.A) (hk : k ≤ j) (hx : Passes CX X E) (he : PE X o ta) (ha : PA X (e :: es) t)
    (hst : starEach (e :: es) X.env = (false, eval e X.env) :: starEach es X.env := by rfl) (hpl : (backTo pos (starEach es X.env)).any (·.1) = false := by rfl)
    (ht : eval (.Call (.Attribute o m apos) (e :: es) [] pos) X.env = (do
      let ov ← eval o X.env
      standAt apos.atName
      let (f, first) ← holding [ov] (getMethod ov m pl)
      callWith pos f first (backTo pos (starEach (e :: es) X.env)) (backToKw pos (keywordEach [] X.env))) := by rfl) :
    PE X (.Call (.Attribute o m apos) (e :: es) [] pos) (tMeth C m sp dvs E ta t) := by
  obtain ⟨f, fd, ps, ds, hc, hm, F, b, d⟩ := c.ex
  exact g_pe_meth (pl := pl) he hc hm F (hr.mono hk) b d hx ha hst hpl ht
theorem pe_m0 {pl : Sem Bool} (c : Met X.prog X.w X.K X.mg X.base CX k C m sp dvs) (hr : RoomG j X.A) (hk : k ≤ j) (hx : Passes CX X E) (he : PE X o ta)
    (ht : eval (.Call (.Attribute o m apos) [] [] pos) X.env = (do
      let ov ← eval o X.env
      standAt apos.atName
      let (f, first) ← holding [ov] (getMethod ov m pl)
      callWith pos f first (backTo pos (starEach [] X.env)) (backToKw pos (keywordEach [] X.env))) := by rfl) :
    PE X (.Call (.Attribute o m apos) [] [] pos) (tMeth C m sp dvs E ta tNil) := by
  obtain ⟨f, fd, ps, ds, hc, hm, F, b, d⟩ := c.ex
  exact g_pe_meth0 (pl := pl) he hc hm F (hr.mono hk) b d hx ht
end
section
open PySem PySem.W PySem.Calls PyProof.Rows
set_option maxRecDepth 100000 in
open PySem PySem.Spec PyProof.Rows L2 in
set_option maxHeartbeats 0 in
theorem early (S : PySem.W.Frag → Sp) (ask : ∀ (K : PySem.W.Frag), YHd.ex K = true → ∀ (H : L2.Hp) (a : Addr) (ns : List Int), ns.length ≤ 63 → Only H → L2.SqL K H a (ns.map L2.V.int) → S K [.ref a] H (fun v _ => v = .bl true) fun _ _ _ => False)
    (facts : ∀ {P : Program} {w : World} {K : PySem.W.Frag} {h : Heap} {mg : PySem.Str → Option Value} {f : Addr}, K.In h → h.Ns mainGlobals mg → mg ("law" : PySem.Str) = some (.ref f) → He.SaysD YHd.fa YHd.fn K → ∃ fd : FuncData, (∀ (s : Shared) (v : Value), BindsTo s fd ⟨[v], []⟩ [("_law_script", v)]) ∧ ∀ base : Heap, K.In base → base.Ns mainGlobals mg → FnG P w K mg base L2.CX0 13 f fd ["_law_script"] (S K)) : PySem.Challenge.rw_stayprice_k79_undone_to_the_beginning.Holds := by
  w_on; o_law
  refine HandSHeadRun.head_any (r := OpenLaw.row PySem.Challenge.rw_stayprice_k79_undone_to_the_beginning) (q := view (OpenLaw.row PySem.Challenge.rw_stayprice_k79_undone_to_the_beginning).prog [74]) (H := YHd.hk) (ob := YHd.ob) (M := 7500) (loose := YHd.loose) (d := HandSHeadRun.topDef (OpenLaw.row PySem.Challenge.rw_stayprice_k79_undone_to_the_beginning).prog 74) (kwd := []) YHd.ob_eq
    (by kernel_rfl) (fun s => by kernel_rfl) YHd.run (by kernel_rfl) (by kernel_rfl) (by kernel_rfl) (by rfl) (by first | assumption | decide +kernel) (by decide +kernel) ⟨rfl, rfl, rfl, rfl, rfl, by decide +kernel⟩ ?hw ?hc
  case hw => w_witness2
  case hc =>
    refine Y.g_walk (l := PySem.Challenge.rw_stayprice_k79_undone_to_the_beginning) (n := 63) (k := 13) (x := "_law_script") (CX := L2.CX0) rfl (by decide) (by kernel_rfl) ⟨rfl, by decide, by decide⟩ ?F (fun _ _ _ _ z => z)
    intro w mg fa h Y G hmg0
    obtain ⟨K, KX, c⟩ := Y
    have hmg : mg ("law" : PySem.Str) = some (.ref fa) := by
      have e : (HandSHeadRun.topDef (OpenLaw.row PySem.Challenge.rw_stayprice_k79_undone_to_the_beginning).prog 74).name = ("law" : PySem.Str) := by kernel_rfl
      rw [← e]
      exact hmg0
    obtain ⟨fd, hb, hF⟩ := facts (P := (PySem.Challenge.rw_stayprice_k79_undone_to_the_beginning).prog) (w := w) KX G hmg c.1
    exact ⟨K, fd, S K, KX, hb, fun H a ns hl ho hS => ask K c.2 H a ns hl ho hS, hF⟩
end
/-! YD: data (lists, tuples, numbers, truths, texts, None) and their ==. -/
open PySem PySem.Spec PyProof.Rows L2
mutual
theorem eqv_same : ∀ d : PyData, d.canLay0 = true → PyData.eqv d d = true
  | .none, _ => rfl
  | .bool b, _ => by simp [PyData.eqv]
  | .int i, _ => by simp [PyData.eqv]
  | .str x, _ => by simp [PyData.eqv]
  | .list xs, h => by rw [PyData.eqv]; exact eqv_sameAll xs (by simpa [PyData.canLay0] using h)
  | .tuple xs, h => by rw [PyData.eqv]; exact eqv_sameAll xs (by simpa [PyData.canLay0] using h)
  | .dict _, h => by simp [PyData.canLay0] at h
theorem eqv_sameAll : ∀ xs : List PyData, PyData.canLayAll0 xs = true → PyData.eqvAll xs xs = true
  | [], _ => rfl
  | x :: xs, h => by
    have h' : x.canLay0 = true ∧ PyData.canLayAll0 xs = true := by simpa [PyData.canLayAll0] using h
    rw [PyData.eqvAll, eqv_same x h'.1, eqv_sameAll xs h'.2]; rfl
end
theorem shaped_of {d : PyData} (h : d.canLay0 = true) (k : d.depth ≤ 64) : SeqAt.shaped d = true := by
  unfold SeqAt.shaped
  rw [h, decide_eq_true k]; rfl
theorem canLay_all {xs : List PyData} (h : ∀ x ∈ xs, x.canLay0 = true) : PyData.canLayAll0 xs = true := by
  induction xs with
  | nil => rfl
  | cons x r ih => rw [PyData.canLayAll0, h x (by simp), ih fun y hy => h y (by simp [hy])]; rfl
theorem depth_all {xs : List PyData} {n : Nat} (h : ∀ x ∈ xs, x.depth ≤ n) : PyData.depthAll xs ≤ n := by
  induction xs with
  | nil => exact Nat.zero_le _
  | cons x r ih =>
    rw [PyData.depthAll]
    exact Nat.max_le.mpr ⟨h x (by simp), ih fun y hy => h y (by simp [hy])⟩
/-- data that stand at most so deep -/
def Sh (n : Nat) (d : PyData) : Prop := d.canLay0 = true ∧ d.depth ≤ n
theorem Sh.ok {n : Nat} {d : PyData} (h : Sh n d) (k : n ≤ 64) : SeqAt.shaped d = true := shaped_of h.1 (Nat.le_trans h.2 k)
theorem sh_int (i : Int) (n : Nat) : Sh n (.int i) := ⟨by simp [PyData.canLay0], by simp [PyData.depth]⟩
theorem sh_bl (b : Bool) (n : Nat) : Sh n (.bool b) := ⟨by simp [PyData.canLay0], by simp [PyData.depth]⟩
theorem sh_non (n : Nat) : Sh n .none := ⟨by simp [PyData.canLay0], by simp [PyData.depth]⟩
theorem sh_str {x : Str} (h : PyData.strOk x = true) (n : Nat) : Sh n (.str x) := ⟨by simpa [PyData.canLay0] using h, by simp [PyData.depth]⟩
theorem sh_lst {n : Nat} {xs : List PyData} (h : ∀ x ∈ xs, Sh n x) : Sh (n + 1) (.list xs) :=
  ⟨by rw [PyData.canLay0]; exact canLay_all fun x hx => (h x hx).1, by rw [PyData.depth]; exact Nat.succ_le_succ (depth_all fun x hx => (h x hx).2)⟩
theorem sh_tup {n : Nat} {xs : List PyData} (h : ∀ x ∈ xs, Sh n x) : Sh (n + 1) (.tuple xs) :=
  ⟨by rw [PyData.canLay0]; exact canLay_all fun x hx => (h x hx).1, by rw [PyData.depth]; exact Nat.succ_le_succ (depth_all fun x hx => (h x hx).2)⟩
theorem Sh.mono {n m : Nat} {d : PyData} (h : Sh n d) (k : n ≤ m) : Sh m d := ⟨h.1, Nat.le_trans h.2 k⟩
/-! ### lists of whole numbers, of truths -/
theorem dp_ints {K : PySem.W.Frag} {H : Hp} : ∀ ns : List Int, DpAll K H (ns.map V.int) (ns.map PyData.int)
  | [] => .nil
  | n :: r => .cons (.int n) (dp_ints r)
theorem sh_ints (ns : List Int) (n : Nat) : Sh (n + 1) (.list (ns.map PyData.int)) := sh_lst fun x hx => by
  obtain ⟨i, _, rfl⟩ := List.mem_map.mp hx
  exact sh_int i n
theorem eqv_ints : ∀ ns ms : List Int, PyData.eqvAll (ns.map PyData.int) (ms.map PyData.int) = decide (ns = ms)
  | [], [] => rfl
  | [], m :: ms => by simp [PyData.eqvAll]
  | n :: ns, [] => by simp [PyData.eqvAll]
  | n :: ns, m :: ms => by
    rw [List.map_cons, List.map_cons, PyData.eqvAll, eqv_ints ns ms, PyData.eqv]
    by_cases h : n = m <;> simp [h]
section
variable {K : PySem.W.Frag} {H : Hp} {Q : VK} {p q : Addr} {ns ms : List Int} {x y : V} {d e : PyData} {n : Nat}
/-- alike data -/
theorem g_eqD_same (h : Dp K H x d) (h' : Dp K H y d) (s : Sh n d) (hn : n ≤ 64) (k : Q (.bl true) H) : rEqD K x y H Q :=
  ⟨d, d, h, h', s.ok hn, s.ok hn, by rw [eqv_same d s.1]; exact k⟩
theorem g_neD_same (h : Dp K H x d) (h' : Dp K H y d) (s : Sh n d) (hn : n ≤ 64) (k : Q (.bl false) H) : rNeD K x y H Q :=
  ⟨d, d, h, h', s.ok hn, s.ok hn, by rw [eqv_same d s.1]; exact k⟩
end
/-- the days from c to ahead of g -/
def days (c g : Int) : List Int := (List.range (g - c).toNat).map fun i : Nat => c + (i : Int)
theorem rgV_days (c g : Int) : rgV c g = (days c g).map V.int := by
  unfold rgV days
  rw [List.map_map]
  rfl
theorem days_len (c g : Int) : (days c g).length = (g - c).toNat := by unfold days; rw [List.length_map, List.length_range]
theorem days_get {c g : Int} {i : Nat} (h : (i : Int) < g - c) : (days c g)[i]? = some (c + (i : Int)) := by
  unfold days
  rw [List.getElem?_map, List.getElem?_range (by omega)]
  rfl
/-! YM: lists of stretches, their days, the one rising list of few stretches. -/
open PySem
abbrev Pr : Type := Int × Int
def hasD (ts : List Pr) (d : Int) : Bool := ts.any fun p => decide (p.1 ≤ d) && decide (d ≤ p.2)
/-- each is none of the wrong way round -/
def Up (ts : List Pr) : Prop := ∀ p ∈ ts, p.1 ≤ p.2
/-- rising, a day between each two -/
structure Can (ts : List Pr) : Prop where
  up : Up ts
  gap : ts.Pairwise fun p q => p.2 + 1 < q.1
/-- one turn of the spreading: the last stretch ahead is made longer, or a new one is laid -/
def sprTurn (F : List Pr) (p : Pr) : List Pr := match F.getLast? with
  | some l => if p.1 ≤ l.2 + 1 then F.dropLast ++ [(l.1, max l.2 p.2)] else F ++ [p]
  | none => [p]
/-- what holds between the turns: F is rising, each of its stretches begins no later than what comes -/
structure SprIn (F : List Pr) (seen : List Pr) : Prop where
  can : Can F
  days : ∀ d, hasD F d = hasD seen d
  low : ∀ q ∈ F, ∃ r ∈ seen, q.1 = r.1
theorem snoc_cases {α : Type} : ∀ F : List α, F = [] ∨ ∃ ts l, F = ts ++ [l]
  | [] => .inl rfl
  | x :: xs => .inr ⟨(x :: xs).dropLast, (x :: xs).getLast (by simp), (List.dropLast_concat_getLast (by simp)).symm⟩
/-- what one stretch lacks of another -/
def wo (p q : Pr) : List Pr := (if p.1 < q.1 then [(p.1, min p.2 (q.1 - 1))] else []) ++ if q.2 < p.2 then [(max p.1 (q.2 + 1), p.2)] else []
def OkD (p : Pr) : Prop := 0 ≤ p.1 ∧ p.1 ≤ p.2 ∧ p.2 ≤ 1000000
/-! YT: the law's tape in the heap; tuples that stay. -/
open PySem PySem.Spec PyProof.Rows L2
/-- a row of draws at t: a great number's rest, a stream's last number (the places b and s are t) -/
def Tape (H : Hp) (t b s : Addr) : Prop := t = b ∧ t = s ∧ ∃ a c : Int, H t = some (.lst [.int a, .int c]) ∧ 0 ≤ a ∧ 0 ≤ c ∧ c < 2147483648
theorem tape_lst {H : Hp} {t b s : Addr} (T : Tape H t b s) : (∃ xs, H t = some (.lst xs)) ∧ ∃ xs, H b = some (.lst xs) := by
  obtain ⟨rfl, rfl, a, c, h, -⟩ := T
  exact ⟨⟨_, h⟩, ⟨_, h⟩⟩
theorem log9 {m : Int} (h0 : 0 < m) (h : m < 2 ^ 250) : m.natAbs.log2 < 9000 :=
  Nat.lt_trans (PySem.Flt.log2_lt_of (k := 250) (by decide) (by
    have e : (m.natAbs : Int) = m := by omega
    have h2 : (m.natAbs : Int) < ((2 ^ 250 : Nat) : Int) := by rw [e]; exact h
    exact Int.ofNat_lt.mp h2)) (by decide)
theorem ni_tape {H : Hp} {t b s p : Addr} (hp : Fr H p) (T : Tape H t b s) : p ∉ [t, b] := by
  replace hp : H p = none := hp
  obtain ⟨⟨_, h1⟩, _, h2⟩ := tape_lst T
  intro h
  rcases List.mem_cons.mp h with e | h
  · rw [e, h1] at hp; cases hp
  · rw [List.mem_singleton.mp h, h2] at hp; cases hp
theorem tape_same {H H' : Hp} {t b s : Addr} (e : Same H H') (T : Tape H t b s) : Tape H' t b s := by
  obtain ⟨n1, n2, a, c, h, z⟩ := T
  exact ⟨n1, n2, a, c, e _ _ h, z⟩
theorem tape_new {H : Hp} {t b s p : Addr} {o : HO} (hp : Fr H p) (T : Tape H t b s) : Tape (upd H p o) t b s := tape_same (same_new hp) T
theorem tape_own {H H0 : Hp} {t b s p : Addr} {o : HO} (hp : Fr H0 p) (T0 : Tape H0 t b s) (T : Tape H t b s) : Tape (upd H p o) t b s := by
  obtain ⟨n1, n2, a, c, h, z⟩ := T
  obtain ⟨_, _, _, _, k, _⟩ := T0
  exact ⟨n1, n2, a, c, at_ne (ne_of_none k hp) h, z⟩
/-- the tuples stay -/
def Tk (H H' : Hp) : Prop := ∀ a xs, H a = some (.tup xs) → H' a = some (.tup xs)
theorem Tk.trans {H H1 H2 : Hp} (a : Tk H H1) (b : Tk H1 H2) : Tk H H2 := fun c xs h => b c xs (a c xs h)
theorem Same.tk {H H' : Hp} (e : Same H H') : Tk H H' := fun a xs h => e _ _ h
theorem tk_new {H : Hp} {p : Addr} {o : HO} (h : Fr H p) : Tk H (upd H p o) := Same.tk (same_new h)
theorem tk_put {H : Hp} {p : Addr} {o : HO} {zs : List V} (h : H p = some (.lst zs)) : Tk H (upd H p o) := fun a xs e => at_ne (fun z => by rw [z, h] at e; cases e) e
theorem tk_kp {H H' : Hp} {t b s : Addr} (T : Tape H t b s) (k : Kp [t, b] H H') : Tk H H' := fun a xs e => k a _ e fun m => by
  obtain ⟨⟨_, h1⟩, _, h2⟩ := tape_lst T
  rcases List.mem_cons.mp m with z | m
  · rw [z, h1] at e; cases e
  · rw [List.mem_singleton.mp m, h2] at e; cases e
theorem at_tk {H H' : Hp} {t b s a : Addr} {xs : List V} (k : Kp [t, b] H H') (T : Tape H t b s) (h : H a = some (.tup xs)) : H' a = some (.tup xs) := tk_kp T k a xs h
theorem g_pk2 {K : PySem.W.Frag} {H : Hp} {Q : VK} {p : Addr} {xs : List V} {a b w : Int} (h : H p = some (.lst xs)) (hxs : xs = [.int a, .int b]) (h0 : 0 ≤ w) (h1 : w < 2) (q : ∀ v : Int, v = a ∨ v = b → Q (.int v) H) : rIxL K (.ref p) (.int w) H Q := by
  subst hxs
  exact g_pick2 (SqL.of h) h0 h1 q
theorem g_pk4 {K : PySem.W.Frag} {H : Hp} {Q : VK} {p : Addr} {xs : List V} {a b c d w : Int} (h : H p = some (.lst xs)) (hxs : xs = [.int a, .int b, .int c, .int d]) (h0 : 0 ≤ w) (h1 : w < 4) (q : ∀ v : Int, v = a ∨ v = b ∨ v = c ∨ v = d → Q (.int v) H) : rIxL K (.ref p) (.int w) H Q := by
  subst hxs
  exact g_pick4 (SqL.of h) h0 h1 q
theorem g_pk5 {K : PySem.W.Frag} {H : Hp} {Q : VK} {p : Addr} {xs : List V} {a b c d e w : Int} (h : H p = some (.lst xs)) (hxs : xs = [.int a, .int b, .int c, .int d, .int e]) (h0 : 0 ≤ w) (h1 : w < 5) (q : ∀ v : Int, v = a ∨ v = b ∨ v = c ∨ v = d ∨ v = e → Q (.int v) H) : rIxL K (.ref p) (.int w) H Q := by
  subst hxs
  exact g_pick5 (SqL.of h) h0 h1 q
/-! YP: pairs of whole numbers in the heap; comprehensions that make nothing but their list. -/
open PySem PySem.Spec PyProof.Rows L2
/-- v is a tuple of the pair p -/
def PrAt (G : Hp) (v : V) (p : Pr) : Prop := ∃ t, v = .ref t ∧ G t = some (.tup [.int p.1, .int p.2])
abbrev PrsAt (G : Hp) : List V → List Pr → Prop := Paired (PrAt G)
theorem Paired.app {α β : Type} {F : α → β → Prop} : ∀ {as : List α} {bs : List β} {cs : List α} {ds : List β}, Paired F as bs → Paired F cs ds → Paired F (as ++ cs) (bs ++ ds)
  | _, _, _, _, .nil, h => h
  | _, _, _, _, .cons r t, h => .cons r (Paired.app t h)
theorem Paired.snoc {α β : Type} {F : α → β → Prop} {as : List α} {bs : List β} {a : α} {b : β} (h : Paired F as bs) (r : F a b) : Paired F (as ++ [a]) (bs ++ [b]) := Paired.app h (.cons r .nil)
theorem Paired.getL {α β : Type} {F : α → β → Prop} : ∀ {as : List α} {bs : List β} {i : Nat} {a : α}, Paired F as bs → as[i]? = some a → ∃ b, bs[i]? = some b ∧ F a b
  | _, _, _, _, .nil, e => by simp at e
  | _, _, 0, _, .cons r _, e => by simp at e; subst e; exact ⟨_, rfl, r⟩
  | _, _, i + 1, a, .cons r t, e => by
    obtain ⟨b, h1, h2⟩ := Paired.getL (i := i) t (by simpa using e)
    exact ⟨b, by simpa using h1, h2⟩
theorem Paired.snocR {α β : Type} {F : α → β → Prop} {bs : List β} {b : β} : ∀ {cs : List α}, Paired F cs (bs ++ [b]) → ∃ as a, cs = as ++ [a] ∧ Paired F as bs ∧ F a b := by
  induction bs with
  | nil =>
    intro cs h
    cases h with
    | cons r t => cases t; exact ⟨[], _, rfl, .nil, r⟩
  | cons x xs ih =>
    intro cs h
    cases h with
    | cons r t =>
      obtain ⟨as, a, rfl, h1, h2⟩ := ih t
      exact ⟨_ :: as, a, rfl, .cons r h1, h2⟩
/-- the pair that stands at a value -/
def kOf (G : Hp) : V → Pr
  | .ref t => match G t with
    | some (.tup [.int i, .int j]) => (i, j)
    | _ => (0, 0)
  | _ => (0, 0)
theorem kOf_at {G : Hp} {v : V} {p : Pr} (h : PrAt G v p) : kOf G v = p := by
  obtain ⟨t, rfl, e⟩ := h
  simp only [kOf, e]
theorem prs_map {G : Hp} : ∀ {xs : List V} {ts : List Pr}, PrsAt G xs ts → ts = xs.map (kOf G)
  | _, _, .nil => rfl
  | _, _, .cons r t => by rw [List.map_cons, kOf_at r, ← prs_map t]
theorem prs_mem {G : Hp} {xs : List V} {ts : List Pr} (h : PrsAt G xs ts) {x : V} (hx : x ∈ xs) : PrAt G x (kOf G x) := by
  obtain ⟨i, hi, e⟩ := List.mem_iff_getElem.mp hx
  obtain ⟨b, _, q⟩ := Paired.getL h (List.getElem?_eq_some_iff.mpr ⟨hi, e⟩)
  rw [kOf_at q]
  exact q
theorem prs_of {G : Hp} : ∀ {xs : List V}, (∀ x ∈ xs, PrAt G x (kOf G x)) → PrsAt G xs (xs.map (kOf G))
  | [], _ => .nil
  | x :: xs, h => .cons (h x (by simp)) (prs_of fun y hy => h y (by simp [hy]))
theorem pr_tk {G G' : Hp} {v : V} {p : Pr} (e : Tk G G') (h : PrAt G v p) : PrAt G' v p := let ⟨t, a, b⟩ := h; ⟨t, a, e _ _ b⟩
theorem prs_tk {G G' : Hp} {xs : List V} {ts : List Pr} (e : Tk G G') (h : PrsAt G xs ts) : PrsAt G' xs ts := Paired.mapP h fun _ _ q => pr_tk e q
theorem prs_new {H : Hp} {xs : List V} {ts : List Pr} {p : Addr} {o : HO} (hp : Fr H p) (h : PrsAt H xs ts) : PrsAt (upd H p o) xs ts := prs_tk (tk_new hp) h
theorem prs_put {H : Hp} {xs zs : List V} {ts : List Pr} {p : Addr} {o : HO} (hp : H p = some (.lst zs)) (h : PrsAt H xs ts) : PrsAt (upd H p o) xs ts := prs_tk (tk_put hp) h
/-! ### as data -/
def prD (p : Pr) : PyData := .tuple [.int p.1, .int p.2]
section
variable {K : PySem.W.Frag} {H : Hp} {Q : VK} {p q : Addr} {xs ys : List V} {ts us : List Pr}
end
/-- sorted, of pairs -/
theorem g_sortedP {K : PySem.W.Frag} {H : Hp} {Q : VK} {a : Addr} {xs : List V} {ts : List Pr} (h : SqL K H a xs) (hp : PrsAt H xs ts)
    (q : ∀ (p : Addr) (ys : List V) (us : List Pr), Fr H p → PrsAt H ys us → us.Perm ts → (us.Pairwise fun p q => p.1 < q.1 ∨ (p.1 = q.1 ∧ p.2 ≤ q.2)) → Q (.ref p) (upd H p (.lst ys))) : rSortedPO K [.ref a] H Q :=
  ⟨a, xs, kOf H, rfl, h, fun x hx => prs_mem hp hx, fun ys p hs hb hn => q p ys (ys.map (kOf H)) hn (prs_of fun x hx => prs_mem hp (hb.perm.mem_iff.mp hx)) (by rw [prs_map hp]; exact hb.perm.map _)
    (List.pairwise_map.mpr (hs.imp fun {x y} e => by
      have e' := SrtO.lexB_no.mp (show SrtO.lexB (kOf H y) (kOf H x) = false from e)
      omega))⟩
theorem jn {t u : TS} {D : Ends} {σ : L2.St} {H : Hp} (P : L2.St → Hp → Prop) (k : ∀ σ H, P σ H → u D σ H) (h : ∀ N : L2.St → Hp → Prop, (∀ σ H, P σ H → N σ H) → t { D with nx := N } σ H) : tSeq t u D σ H := h (u D) k
theorem mxi (i j : Int) : (if j > i then j else i) = max i j := by
  split <;> omega
theorem mni (i j : Int) : (if j < i then j else i) = min i j := by
  split <;> omega
/-! ### comprehensions that make nothing but their list -/
/-! ### comprehensions whose parts may make new things -/
theorem lc_w {J : It} {n : Nat} {G : Hp → Prop} {Y : Nat → Hp → V → Hp → Prop} (w : Walk J n G Y) {g : TG} {tt : TT} {te : TE} {vs : List Nat} {σ : L2.St} {H1 : Hp} {Qf : Addr → Hp → Prop} (f : Nat → Option V) (hn : n < 100000) (hG : ∀ H, Same H1 H → G H)
    (hs : ∀ (D : Addr) i x H H' (N : Hp → Prop), Fr H1 D → i < n → Same H1 H → Y i H x H' → (∀ y H4, f i = some y → Same H H4 → ∃ acc, H4 D = some (.lst acc) ∧ acc.length < sizeLine ∧ N (upd H4 D (.lst (acc ++ [y])))) → (∀ H4, f i = none → Same H H4 → N H4) →
      g x (wipe σ vs) H' fun σ2 H2 => wipe σ2 vs = wipe σ vs ∧ tt σ2 H2 fun b H3 =>
        if b = true then te σ2 H3 fun y H4 => ∃ acc, H4 D = some (.lst acc) ∧ acc.length < sizeLine ∧ N (upd H4 D (.lst (acc ++ [y]))) else N H3)
    (hd : ∀ D H', Fr H1 D → Same H1 H' → H' D = some (.lst ((List.range n).filterMap f)) → Qf D H') :
    ∀ D, Fr H1 D → ∃ W : Nat → Nat → Hp → Prop, (∃ m, W 0 m (upd H1 D (.lst []))) ∧ ∀ i m H, W i m H →
      (J.stop i H ∧ Qf D H) ∨ (J.go i H ∧ ∃ Nx : Hp → Prop, (∀ H', Nx H' → ∃ m', m' < m ∧ W (i + 1) m' H') ∧ ∀ x H', J.yld i H x H' → g x (wipe σ vs) H' fun σ2 H2 => wipe σ2 vs = wipe σ vs ∧ tt σ2 H2 fun b H3 =>
        if b = true then te σ2 H3 fun y H4 => ∃ acc, H4 D = some (.lst acc) ∧ acc.length < sizeLine ∧ Nx (upd H4 D (.lst (acc ++ [y]))) else Nx H3) := fun D hD => by
  refine lc_it w (fun i H => Same H1 H ∧ H D = some (.lst ((List.range i).filterMap f))) ⟨same_new hD, upd_same⟩ (fun i H _ h => hG H h.1) (fun i x H H' hi h y => ?_) fun H h => hd D H hD h.1 h.2
  have hlen : ((List.range i).filterMap f).length ≤ i := Nat.le_trans (List.length_filterMap_le ..) (by rw [List.length_range]; omega)
  refine hs D i x H H' _ hD hi h.1 y (fun y H4 hy s => ⟨_, s _ _ h.2, by rw [sizeLine_eq]; omega, sm_own hD (h.1.trans s), ?_⟩) fun H4 hy s => ⟨h.1.trans s, ?_⟩
  · rw [upd_same, List.range_succ, List.filterMap_append]
    simp [hy]
  · rw [s _ _ h.2, List.range_succ, List.filterMap_append]
    simp [hy]
theorem range_flt' {α β : Type} (xs : List α) (g : α → Option β) (n : Nat) : (List.range n).filterMap (fun i => (xs[i]?).bind g) = (xs.take n).filterMap g := by
  induction n with
  | zero => simp
  | succ n ih =>
    rw [List.range_succ, List.filterMap_append, ih, List.take_add_one, List.filterMap_append]
    congr 1
    cases e : xs[n]? with
    | none => simp [e]
    | some x => cases e2 : g x <;> simp [e, e2]
theorem range_flt {α β : Type} (xs : List α) (g : α → Option β) : (List.range xs.length).filterMap (fun i => (xs[i]?).bind g) = xs.filterMap g := by
  rw [range_flt', List.take_length]
/-- comprehensions whose items are new tuples, numbers, texts: R stays while the tuples stay -/
theorem lc_r {J : It} {n : Nat} {G : Hp → Prop} {Y : Nat → Hp → V → Hp → Prop} (w : Walk J n G Y) {g : TG} {tt : TT} {te : TE} {vs : List Nat} {σ : L2.St} {H1 : Hp} {Qf : Addr → Hp → Prop} {β : Type} (R : Hp → V → β → Prop) (hR : ∀ G G' v b, Tk G G' → R G v b → R G' v b) (f : Nat → Option β) (hn : n < 100000) (hG : ∀ H, Same H1 H → G H)
    (hs : ∀ (D : Addr) i x H H' (N : Hp → Prop), Fr H1 D → i < n → Same H1 H → Y i H x H' → (∀ y b H4, f i = some b → Same H H4 → R H4 y b → ∃ acc, H4 D = some (.lst acc) ∧ acc.length < sizeLine ∧ N (upd H4 D (.lst (acc ++ [y])))) → (∀ H4, f i = none → Same H H4 → N H4) →
      g x (wipe σ vs) H' fun σ2 H2 => wipe σ2 vs = wipe σ vs ∧ tt σ2 H2 fun b H3 =>
        if b = true then te σ2 H3 fun y H4 => ∃ acc, H4 D = some (.lst acc) ∧ acc.length < sizeLine ∧ N (upd H4 D (.lst (acc ++ [y]))) else N H3)
    (hd : ∀ D H' ys, Fr H1 D → Same H1 H' → H' D = some (.lst ys) → Paired (R H') ys ((List.range n).filterMap f) → Qf D H') :
    ∀ D, Fr H1 D → ∃ W : Nat → Nat → Hp → Prop, (∃ m, W 0 m (upd H1 D (.lst []))) ∧ ∀ i m H, W i m H →
      (J.stop i H ∧ Qf D H) ∨ (J.go i H ∧ ∃ Nx : Hp → Prop, (∀ H', Nx H' → ∃ m', m' < m ∧ W (i + 1) m' H') ∧ ∀ x H', J.yld i H x H' → g x (wipe σ vs) H' fun σ2 H2 => wipe σ2 vs = wipe σ vs ∧ tt σ2 H2 fun b H3 =>
        if b = true then te σ2 H3 fun y H4 => ∃ acc, H4 D = some (.lst acc) ∧ acc.length < sizeLine ∧ Nx (upd H4 D (.lst (acc ++ [y]))) else Nx H3) := fun D hD => by
  refine lc_it w (fun i H => Same H1 H ∧ ∃ acc, H D = some (.lst acc) ∧ Paired (R H) acc ((List.range i).filterMap f)) ⟨same_new hD, [], upd_same, .nil⟩ (fun i H _ h => hG H h.1) (fun i x H H' hi ⟨sm, acc, ha, hp⟩ y => ?_) fun H ⟨sm, acc, ha, hp⟩ => hd D H acc hD sm ha hp
  have hlen : acc.length ≤ i := by
    rw [Paired.length hp]
    exact Nat.le_trans (List.length_filterMap_le ..) (by rw [List.length_range]; omega)
  refine hs D i x H H' _ hD hi sm y (fun y b H4 hb s r => ⟨acc, s _ _ ha, by rw [sizeLine_eq]; omega, sm_own hD (sm.trans s), acc ++ [y], upd_same, ?_⟩) fun H4 hb s => ⟨sm.trans s, acc, s _ _ ha, ?_⟩
  · have tk : Tk H4 (upd H4 D (.lst (acc ++ [y]))) := tk_put (s _ _ ha)
    rw [List.range_succ, List.filterMap_append]
    refine Paired.app (Paired.mapP hp fun _ _ q => hR _ _ _ _ ((Same.tk s).trans tk) q) ?_
    simp only [List.filterMap_cons, hb, List.filterMap_nil]
    exact .cons (hR _ _ _ _ tk r) .nil
  · rw [List.range_succ, List.filterMap_append]
    simp only [List.filterMap_cons, hb, List.filterMap_nil, List.append_nil]
    exact Paired.mapP hp fun _ _ q => hR _ _ _ _ (Same.tk s) q
theorem Paired.take {α β : Type} {F : α → β → Prop} : ∀ (n : Nat) {as : List α} {bs : List β}, Paired F as bs → Paired F (as.take n) (bs.take n)
  | 0, _, _, _ => .nil
  | n + 1, _, _, .nil => .nil
  | n + 1, _, _, .cons r t => .cons r (Paired.take n t)
theorem Paired.drop {α β : Type} {F : α → β → Prop} : ∀ (n : Nat) {as : List α} {bs : List β}, Paired F as bs → Paired F (as.drop n) (bs.drop n)
  | 0, _, _, h => h
  | n + 1, _, _, .nil => .nil
  | n + 1, _, _, .cons r t => Paired.drop n t
/-! Y1 (second family): a row of draws, its draws. -/
open PySem PySem.Spec PyProof.Rows L2
def sp_Ltake (K : PySem.W.Frag) : Sp := Sp2 fun x y H Q E => ∃ (t b s : Addr) (m : Int), x = .ref t ∧ y = .int m ∧ Tape H t b s ∧ 0 < m ∧ m.natAbs.log2 < 9000 ∧
  ∀ (v : Int) (H' : Hp), 0 ≤ v → v < m → Tape H' t b s → Kp [t, b] H H' → Q (.int v) H'
theorem g_take {K : PySem.W.Frag} {t b s : Addr} {m : Int} {H : Hp} {Q : VK} {E : XK} (T : Tape H t b s) (h0 : 0 < m) (h9 : m < 2 ^ 250) (q : ∀ (v : Int) (H' : Hp), 0 ≤ v → v < m → Tape H' t b s → Kp [t, b] H H' → Q (.int v) H') : sp_Ltake K ([.ref t, .int m] ++ []) H Q E :=
  ⟨_, _, rfl, t, b, s, m, rfl, rfl, T, h0, log9 h0 h9, q⟩
def sp_Lbegin (K : PySem.W.Frag) : Sp := Sp1 fun x H Q E => ∃ c : Int, x = .int c ∧ ∀ (t : Addr) (H' : Hp), Same H H' → Fr H t → Tape H' t t t → Q (.ref t) H'
theorem g_begin {K : PySem.W.Frag} {c : Int} {H : Hp} {Q : VK} {E : XK} (q : ∀ (t : Addr) (H' : Hp), Same H H' → Fr H t → Tape H' t t t → Q (.ref t) H') : sp_Lbegin K ([.int c] ++ []) H Q E := ⟨_, rfl, c, rfl, q⟩
def sp_Lcell_at (K : PySem.W.Frag) : Sp := Sp2 fun x y H Q E => ∃ (a : Addr) (ns : List Int) (i : Nat), x = .ref a ∧ y = .int (i : Nat) ∧ SqL K H a (ns.map V.int) ∧ ∀ c : Int, Q (.int c) H
theorem g_cell_at {K : PySem.W.Frag} {a : Addr} {ns : List Int} {i : Nat} {H : Hp} {Q : VK} {E : XK} (h : SqL K H a (ns.map V.int)) (q : ∀ c : Int, Q (.int c) H) : sp_Lcell_at K ([.ref a, .int (i : Nat)] ++ []) H Q E := ⟨_, _, rfl, a, ns, i, rfl, rfl, h, q⟩
/-! steps: a heap's facts (at), a list's or tuple's (sq), side questions (sd), one step (s1), many (ss) -/
local macro_rules | `(tactic| walk_at "tp") => `(tactic| first
  | with_reducible assumption
  | ((with_reducible refine' $(Lean.mkIdent `Y.tape_new) ?n0 ?n1); (case n0 => with_reducible assumption); (case n1 => walk_at "tp"))
  | ((with_reducible refine' $(Lean.mkIdent `Y.tape_same) ?n0 ?n1); (case n0 => with_reducible assumption); (case n1 => walk_at "tp"))
  | ((with_reducible refine' $(Lean.mkIdent `Y.tape_own) ?n0 ?n1 ?n2); (case n0 => with_reducible assumption); (case n1 => walk_at "tp"); (case n2 => walk_at "tp"))
  | fail)
local macro_rules | `(tactic| walk_at "ni") => `(tactic| first
  | with_reducible assumption
  | ((with_reducible refine' $(Lean.mkIdent `Y.ni_tape) ?n0 ?n1); (case n0 => with_reducible assumption); (case n1 => walk_at "tp"))
  | fail)
local macro_rules | `(tactic| walk_at "at0") => `(tactic| first
  | with_reducible assumption
  | with_reducible exact upd_same
  | ((with_reducible refine' $(Lean.mkIdent `Y.at_new) ?n0 ?n1); (case n0 => with_reducible assumption); (case n1 => walk_at "at0"))
  | ((with_reducible refine' $(Lean.mkIdent `Y.get_same) ?n0 ?n1); (case n0 => with_reducible assumption); (case n1 => walk_at "at0"))
  | ((with_reducible refine' $(Lean.mkIdent `Y.get_kp) ?n0 ?n1 ?n2); (case n0 => with_reducible assumption); (case n1 => walk_at "at0"); (case n2 => walk_at "ni"))
  | fail)
local macro_rules | `(tactic| walk_at "ne") => `(tactic| first
  | assumption
  | exact Ne.symm (by assumption)
  | ((with_reducible refine' $(Lean.mkIdent `Y.ne_new') ?n0 ?n1); (case n0 => with_reducible assumption); (case n1 => walk_at "at"))
  | fail)
local macro_rules | `(tactic| walk_at "sm") => `(tactic| first
  | with_reducible assumption
  | with_reducible exact Same.refl _
  | ((with_reducible refine' $(Lean.mkIdent `Y.sm_new) ?n0 ?n1); (case n0 => with_reducible assumption); (case n1 => walk_at "sm"))
  | ((with_reducible refine' $(Lean.mkIdent `Y.sm_own) ?n0 ?n1); (case n0 => with_reducible assumption); (case n1 => walk_at "sm"))
  | ((with_reducible refine' $(Lean.mkIdent `Y.sm_tr) ?n0 ?n1); (case n0 => with_reducible assumption); (case n1 => walk_at "sm"))
  | fail)
local macro_rules | `(tactic| walk_at "kp") => `(tactic| first
  | with_reducible assumption
  | with_reducible exact $(Lean.mkIdent `Y.Kp.refl) _ _
  | ((with_reducible refine' $(Lean.mkIdent `Y.kp_own) ?n0 ?n1); (case n0 => with_reducible assumption); (case n1 => walk_at "kp"))
  | ((with_reducible refine' $(Lean.mkIdent `Y.kp_new) ?n0 ?n1); (case n0 => with_reducible assumption); (case n1 => walk_at "kp"))
  | ((with_reducible refine' $(Lean.mkIdent `Y.kp_tr) ?n0 ?n1); (case n0 => with_reducible assumption); (case n1 => walk_at "kp"))
  | fail)
local macro_rules | `(tactic| walk_at "fr") => `(tactic| first
  | with_reducible assumption
  | ((with_reducible refine' $(Lean.mkIdent `Y.fr_new) ?n0); (case n0 => with_reducible assumption))
  | ((with_reducible refine' $(Lean.mkIdent `Y.fr_of) ?n0 ?n1); (case n0 => with_reducible assumption); (case n1 => walk_at "sm"))
  | fail)
local macro_rules | `(tactic| walk_at "at") => `(tactic| first
  | with_reducible assumption
  | with_reducible exact upd_same
  | ((with_reducible refine' $(Lean.mkIdent `Y.at_new) ?n0 ?n1); (case n0 => with_reducible assumption); (case n1 => walk_at "at"))
  | ((with_reducible refine' $(Lean.mkIdent `Y.at_ne) ?n0 ?n1); (case n0 => walk_at "ne"); (case n1 => walk_at "at"))
  | ((with_reducible refine' $(Lean.mkIdent `Y.get_same) ?n0 ?n1); (case n0 => with_reducible assumption); (case n1 => walk_at "at"))
  | ((with_reducible refine' $(Lean.mkIdent `Y.get_kp) ?n0 ?n1 ?n2); (case n0 => with_reducible assumption); (case n1 => walk_at "at"); (case n2 => walk_at "ni"))
  | ((with_reducible refine' $(Lean.mkIdent `Y.at_tk) ?n0 ?n1 ?n2); (case n0 => with_reducible assumption); (case n1 => walk_at "tp"); (case n2 => walk_at "at"))
  | fail)
local macro_rules | `(tactic| walk_at "tk") => `(tactic| first
  | with_reducible assumption
  | with_reducible exact $(Lean.mkIdent `Y.Tk.refl) _
  | fail)
local macro_rules | `(tactic| walk_at "pr") => `(tactic| first
  | with_reducible assumption
  | fail)
local macro_rules | `(tactic| walk_at "prs") => `(tactic| first
  | with_reducible assumption
  | ((with_reducible refine' $(Lean.mkIdent `Y.prs_new) ?n0 ?n1); (case n0 => with_reducible assumption); (case n1 => walk_at "prs"))
  | ((with_reducible refine' $(Lean.mkIdent `Y.prs_put) ?n0 ?n1); (case n0 => walk_at "at"); (case n1 => walk_at "prs"))
  | fail)
local macro_rules | `(tactic| walk_at "ad") => `(tactic| first
  | with_reducible assumption
  | with_reducible exact $(Lean.mkIdent `Y.At.int) _
  | with_reducible exact $(Lean.mkIdent `Y.At.str) _
  | with_reducible exact $(Lean.mkIdent `Y.At.bl) _
  | with_reducible exact $(Lean.mkIdent `Y.At.non)
  | ((with_reducible refine' $(Lean.mkIdent `Y.Td.at0) ?n0); (case n0 => walk_at "td"))
  | ((with_reducible refine' $(Lean.mkIdent `Y.at_tup0) ?n0 ?n1); (case n0 => walk_at "at"); (case n1 => walk_at "ads"))
  | ((with_reducible refine' $(Lean.mkIdent `Y.at_lst0) ?n0 ?n1); (case n0 => walk_at "at"); (case n1 => walk_at "ads"))
  | ((with_reducible refine' $(Lean.mkIdent `Y.at_new') ?n0 ?n1); (case n0 => with_reducible assumption); (case n1 => walk_at "ad"))
  | ((with_reducible refine' $(Lean.mkIdent `Y.At.same) ?n0 ?n1); (case n0 => with_reducible assumption); (case n1 => walk_at "ad"))
  | fail)
local macro_rules | `(tactic| walk_at "ads") => `(tactic| first
  | with_reducible assumption
  | with_reducible exact $(Lean.mkIdent `Y.Ats.nil)
  | ((with_reducible refine' $(Lean.mkIdent `Y.Ats.cons) ?n0 ?n1); (case n0 => walk_at "ad"); (case n1 => walk_at "ads"))
  | fail)
local macro_rules | `(tactic| walk_at "td") => `(tactic| first
  | with_reducible assumption
  | with_reducible exact $(Lean.mkIdent `Y.Td.int) _
  | with_reducible exact $(Lean.mkIdent `Y.Td.str) _
  | with_reducible exact $(Lean.mkIdent `Y.Td.bl) _
  | with_reducible exact $(Lean.mkIdent `Y.Td.non)
  | ((with_reducible refine' $(Lean.mkIdent `Y.td_tup) ?n0 ?n1); (case n0 => walk_at "at"); (case n1 => walk_at "tds"))
  | ((with_reducible refine' $(Lean.mkIdent `Y.td_new) ?n0 ?n1); (case n0 => with_reducible assumption); (case n1 => walk_at "td"))
  | ((with_reducible refine' $(Lean.mkIdent `Y.td_same) ?n0 ?n1); (case n0 => with_reducible assumption); (case n1 => walk_at "td"))
  | fail)
local macro_rules | `(tactic| walk_at "tds") => `(tactic| first
  | with_reducible assumption
  | with_reducible exact $(Lean.mkIdent `Y.Tds.nil)
  | ((with_reducible refine' $(Lean.mkIdent `Y.tds_snoc) ?n0 ?n1); (case n0 => walk_at "tds"); (case n1 => walk_at "td"))
  | ((with_reducible refine' $(Lean.mkIdent `Y.tds_app) ?n1 ?n0); (case n0 => walk_at "tds"); (case n1 => walk_at "tds"))
  | ((with_reducible refine' $(Lean.mkIdent `Y.tds_new) ?n0 ?n1); (case n0 => with_reducible assumption); (case n1 => walk_at "tds"))
  | ((with_reducible refine' $(Lean.mkIdent `Y.tds_put) ?n0 ?n1); (case n0 => walk_at "at"); (case n1 => walk_at "tds"))
  | ((with_reducible refine' $(Lean.mkIdent `Y.tds_same) ?n0 ?n1); (case n0 => with_reducible assumption); (case n1 => walk_at "tds"))
  | fail)
local macro_rules | `(tactic| walk_at "ins") => `(tactic| first
  | with_reducible assumption
  | ((with_reducible refine' $(Lean.mkIdent `Y.ins_put) ?n0 ?n1); (case n0 => walk_at "at"); (case n1 => walk_at "ins"))
  | fail)
local macro_rules | `(tactic| walk_at "bk") => `(tactic| first
  | with_reducible assumption
  | ((with_reducible refine' $(Lean.mkIdent `Y.ab_new) ?n0 ?n1); (case n0 => with_reducible assumption); (case n1 => walk_at "bk"))
  | ((with_reducible refine' $(Lean.mkIdent `Y.ab_same) ?n0 ?n1); (case n0 => with_reducible assumption); (case n1 => walk_at "bk"))
  | ((with_reducible refine' $(Lean.mkIdent `Y.bk_same) ?n0 ?n1); (case n0 => with_reducible assumption); (case n1 => walk_at "bk"))
  | ((with_reducible refine' $(Lean.mkIdent `Y.bk_kp) ?n0 ?n2 ?n3 ?n1); (case n0 => with_reducible assumption); (case n2 => walk_at "tp"); (case n1 => walk_at "bk"); (case n3 => with_reducible assumption))
  | fail)
local macro_rules | `(tactic| walk_at "wd") => `(tactic| first
  | with_reducible exact $(Lean.mkIdent `Y.wd_price)
  | with_reducible exact $(Lean.mkIdent `Y.wd_come)
  | with_reducible exact $(Lean.mkIdent `Y.wd_go)
  | with_reducible exact $(Lean.mkIdent `Y.wd_least)
  | with_reducible exact $(Lean.mkIdent `Y.wd_most)
  | with_reducible exact $(Lean.mkIdent `Y.wd_deal)
  | with_reducible exact $(Lean.mkIdent `Y.wd_fee)
  | fail)
local macro_rules | `(tactic| walk_at "rt") => `(tactic| first
  | with_reducible assumption
  | fail)
local macro_rules | `(tactic| walk_at "ru") => `(tactic| first
  | with_reducible assumption
  | with_reducible exact $(Lean.mkIdent `Y.ru_nil)
  | ((with_reducible refine' $(Lean.mkIdent `Y.ru_app) ?n0 ?n1); (case n0 => walk_at "ru"); (case n1 => walk_at "ru"))
  | ((with_reducible refine' $(Lean.mkIdent `Y.ru_take) ?n0); (case n0 => walk_at "ru"))
  | ((with_reducible refine' $(Lean.mkIdent `Y.ru_drop) ?n0); (case n0 => walk_at "ru"))
  | ((with_reducible refine' $(Lean.mkIdent `Y.ru_new) ?n0 ?n1); (case n0 => with_reducible assumption); (case n1 => walk_at "ru"))
  | ((with_reducible refine' $(Lean.mkIdent `Y.ru_put) ?n0 ?n1); (case n0 => walk_at "at"); (case n1 => walk_at "ru"))
  | ((with_reducible refine' $(Lean.mkIdent `Y.ru_same) ?n0 ?n1); (case n0 => with_reducible assumption); (case n1 => walk_at "ru"))
  | ((with_reducible refine' $(Lean.mkIdent `Y.ru_kp) ?n0 ?n2 ?n1); (case n0 => with_reducible assumption); (case n2 => walk_at "tp"); (case n1 => walk_at "ru"))
  | fail)
local macro_rules | `(tactic| walk_at "gd") => `(tactic| first
  | with_reducible assumption
  | ((with_reducible refine' $(Lean.mkIdent `Y.gd_app) ?n0 ?n1); (case n0 => walk_at "gd"); (case n1 => walk_at "gd"))
  | fail)
local macro_rules | `(tactic| walk_at "up") => `(tactic| first
  | with_reducible assumption
  | ((with_reducible refine' $(Lean.mkIdent `Y.Can.up) ?n0); (case n0 => with_reducible assumption))
  | fail)
local macro_rules | `(tactic| walk_at "sq") => `(tactic| first
  | assumption
  | (refine' SqL.of ?n0; (case n0 => walk_at "at"))
  | (refine' SqT.of ?n0; (case n0 => walk_at "at"))
  | ((with_reducible refine' $(Lean.mkIdent `Y.sql_new) ?n0 ?n1); (case n0 => with_reducible assumption); (case n1 => walk_at "sq"))
  | ((with_reducible refine' $(Lean.mkIdent `Y.sql_same) ?n0 ?n1); (case n0 => with_reducible assumption); (case n1 => walk_at "sq"))
  | ((with_reducible refine' $(Lean.mkIdent `Y.sqt_same) ?n0 ?n1); (case n0 => with_reducible assumption); (case n1 => walk_at "sq"))
  | ((with_reducible refine' $(Lean.mkIdent `Y.sq_or) ?n0); (case n0 => walk_at "at"))
  | ((with_reducible refine' $(Lean.mkIdent `Y.sq_orT) ?n0); (case n0 => walk_at "at"))
  | ((with_reducible refine' Or.inl ?n0); (case n0 => walk_at "sq"))
  | ((with_reducible refine' Or.inr ?n0); (case n0 => walk_at "sq"))
  | fail)
local macro_rules | `(tactic| walk_at "dp") => `(tactic| first
  | assumption
  | exact Dp.int _
  | exact Dp.str _
  | exact Dp.bl _
  | exact Dp.non
  | (refine' Dp.tup ?s0 ?a0; (case s0 => walk_at "sq"); (case a0 => walk_at "dpa"))
  | (refine' Dp.lst ?s0 ?a0; (case s0 => walk_at "sq"); (case a0 => walk_at "dpa"))
  | fail)
local macro_rules | `(tactic| walk_at "dpa") => `(tactic| first
  | exact DpAll.nil
  | exact $(Lean.mkIdent `Y.dp_ints) _
  | (refine' DpAll.cons ?a0 ?b0; (case a0 => walk_at "dp"); (case b0 => walk_at "dpa"))
  | fail)
local macro_rules | `(tactic| walk_at "sh") => `(tactic| first
  | assumption
  | exact ⟨by simp [PyData.canLay0, PyData.canLayAll0], by simp [PyData.depth, PyData.depthAll]⟩
  | fail)
local macro_rules | `(tactic| walk_at "sd") => `(tactic| ((try dsimp only); first
  | omega
  | assumption
  | exact rfl
  | decide
  | exact Or.inl ⟨by omega, by omega⟩
  | exact Or.inr ⟨by omega, by omega⟩
  | exact ⟨by first | assumption | omega | decide, by first | assumption | omega | decide⟩
  | exact ⟨by decide, by decide, by decide⟩
  | exact ⟨by omega, $(Lean.mkIdent `Y.log9) (by omega) (by omega)⟩
  | (simp only [List.length_map, List.length_append, List.length_cons, List.length_nil, List.length_singleton, List.length_reverse, List.length_take, List.length_drop, sizeLine_eq]; omega)
  | fail))
local macro_rules | `(tactic| walk_at "sd3") => `(tactic| first
  | assumption
  | exact ⟨by omega, by omega, by omega⟩)
local macro_rules | `(tactic| walk_at "sd4") => `(tactic| first
  | assumption
  | exact ⟨by omega, by omega, by omega, by omega⟩)
local macro_rules | `(tactic| walk_at "rf") => `(tactic| exact rfl)
local macro_rules | `(tactic| walk_at "ai") => `(tactic| first
  | assumption
  | ((with_reducible refine' $(Lean.mkIdent `Y.at_k0) ?r); (case r => exact rfl))
  | ((with_reducible refine' $(Lean.mkIdent `Y.at_k1) ?r); (case r => exact rfl))
  | ((with_reducible refine' $(Lean.mkIdent `Y.at_k2) ?r); (case r => exact rfl))
  | ((with_reducible refine' $(Lean.mkIdent `Y.at_k3) ?r); (case r => exact rfl))
  | ((with_reducible refine' $(Lean.mkIdent `Y.atI_map) ?r); (case r => assumption))
  | ((with_reducible refine' $(Lean.mkIdent `Y.ix_k0) ?r); (case r => walk_at "sd"))
  | ((with_reducible refine' $(Lean.mkIdent `Y.ix_k1) ?r); (case r => walk_at "sd"))
  | fail)
local macro_rules | `(tactic| walk_at "isi") => `(tactic| first
  | (with_reducible refine $(Lean.mkIdent `Y.g_isi_int_int) ?_)
  | (with_reducible refine $(Lean.mkIdent `Y.g_isi_int_bool) ?_)
  | (with_reducible refine $(Lean.mkIdent `Y.g_isi_int_str) ?_)
  | (with_reducible refine $(Lean.mkIdent `Y.g_isi_int_tuple) ?_)
  | (with_reducible refine $(Lean.mkIdent `Y.g_isi_bl_int) ?_)
  | (with_reducible refine $(Lean.mkIdent `Y.g_isi_bl_bool) ?_)
  | (with_reducible refine $(Lean.mkIdent `Y.g_isi_bl_str) ?_)
  | (with_reducible refine $(Lean.mkIdent `Y.g_isi_bl_tuple) ?_)
  | (with_reducible refine $(Lean.mkIdent `Y.g_isi_str_int) ?_)
  | (with_reducible refine $(Lean.mkIdent `Y.g_isi_str_bool) ?_)
  | (with_reducible refine $(Lean.mkIdent `Y.g_isi_str_str) ?_)
  | (with_reducible refine $(Lean.mkIdent `Y.g_isi_str_tuple) ?_)
  | (with_reducible refine $(Lean.mkIdent `Y.g_isi_non_int) ?_)
  | (with_reducible refine $(Lean.mkIdent `Y.g_isi_non_bool) ?_)
  | (with_reducible refine $(Lean.mkIdent `Y.g_isi_non_str) ?_)
  | (with_reducible refine $(Lean.mkIdent `Y.g_isi_non_tuple) ?_)
  | ((with_reducible refine' $(Lean.mkIdent `Y.g_isi_lst_int) ?h ?_); (case h => walk_at "at"))
  | ((with_reducible refine' $(Lean.mkIdent `Y.g_isi_lst_bool) ?h ?_); (case h => walk_at "at"))
  | ((with_reducible refine' $(Lean.mkIdent `Y.g_isi_lst_str) ?h ?_); (case h => walk_at "at"))
  | ((with_reducible refine' $(Lean.mkIdent `Y.g_isi_lst_tuple) ?h ?_); (case h => walk_at "at"))
  | ((with_reducible refine' $(Lean.mkIdent `Y.g_isi_tup_int) ?h ?_); (case h => walk_at "at"))
  | ((with_reducible refine' $(Lean.mkIdent `Y.g_isi_tup_bool) ?h ?_); (case h => walk_at "at"))
  | ((with_reducible refine' $(Lean.mkIdent `Y.g_isi_tup_str) ?h ?_); (case h => walk_at "at"))
  | ((with_reducible refine' $(Lean.mkIdent `Y.g_isi_tup_tuple) ?h ?_); (case h => walk_at "at"))
  | fail)
local macro_rules | `(tactic| walk_at "xa") => `(tactic| first
  | with_reducible assumption
  | ((with_reducible refine' $(Lean.mkIdent `Y.exAt_new) ?n0 ?n1); (case n0 => with_reducible assumption); (case n1 => walk_at "xa"))
  | fail)
local macro_rules | `(tactic| walk_at "dc") => `(tactic| first
  | with_reducible assumption
  | ((with_reducible refine' $(Lean.mkIdent `Y.dc_new) ?n0 ?n1); (case n0 => with_reducible assumption); (case n1 => walk_at "dc"))
  | ((with_reducible refine' $(Lean.mkIdent `Y.dc_put) ?n0 ?n1); (case n0 => walk_at "at"); (case n1 => walk_at "dc"))
  | ((with_reducible refine' $(Lean.mkIdent `Y.dc_same) ?n0 ?n1); (case n0 => with_reducible assumption); (case n1 => walk_at "dc"))
  | fail)
local macro_rules | `(tactic| walk_at "s1") => `(tactic| first
  | ((with_reducible refine' $(Lean.mkIdent `Y.g_var) ?h ?_); (case h => exact rfl))
  | (with_reducible refine $(Lean.mkIdent `Y.g_c) ?_)
  | (with_reducible refine $(Lean.mkIdent `Y.g_op) ?_)
  | (with_reducible refine $(Lean.mkIdent `Y.g_cons) ?_)
  | (with_reducible refine $(Lean.mkIdent `Y.g_nil) ?_)
  | (with_reducible refine $(Lean.mkIdent `Y.g_test) ?_)
  | (with_reducible refine $(Lean.mkIdent `Y.g_cb) ?_)
  | (with_reducible refine $(Lean.mkIdent `Y.g_seqA) ?_)
  | (with_reducible refine $(Lean.mkIdent `Y.g_seqR) ?_)
  | (with_reducible refine $(Lean.mkIdent `Y.g_seqD) ?_)
  | (with_reducible refine $(Lean.mkIdent `Y.g_seqF) ?_)
  | (with_reducible refine $(Lean.mkIdent `Y.g_seqW) ?_)
  | (with_reducible refine $(Lean.mkIdent `Y.g_asg) ?_)
  | (with_reducible refine $(Lean.mkIdent `Y.g_name) ?_)
  | (with_reducible refine $(Lean.mkIdent `Y.g_ifS) ?_)
  | (with_reducible refine $(Lean.mkIdent `Y.g_meth) ?_)
  | (with_reducible refine $(Lean.mkIdent `Y.ite_nf) ?_)
  | (with_reducible refine $(Lean.mkIdent `Y.ite_nt) ?_)
  | (with_reducible refine iteF ?_)
  | (with_reducible refine iteT ?_)
  | ((with_reducible refine $(Lean.mkIdent `Y.g_wipe) ?h ?_); (case h => exact rfl))
  | ((with_reducible refine' $(Lean.mkIdent `Y.g_take) ?T ?c0 ?c9 fun v H' h0 h1 T' k' => ?_); (case T => walk_at "tp"); (case c0 => walk_at "sd"); (case c9 => walk_at "sd"))
  | ((with_reducible refine $(Lean.mkIdent `Y.g_sz) ?z fun p hp => ?_); (case z => walk_at "sd"))
  | (with_reducible refine $(Lean.mkIdent `Y.g_pow6) ?_)
  | (with_reducible refine $(Lean.mkIdent `Y.g_pow12) ?_)
  | (with_reducible refine $(Lean.mkIdent `Y.g_pow18) ?_)
  | ((with_reducible refine $(Lean.mkIdent `Y.g_rI) ?c ?_); (case c => walk_at "sd"))
  | ((with_reducible refine $(Lean.mkIdent `Y.g_eq) ?c ?_); (case c => walk_at "rf"))
  | ((with_reducible refine $(Lean.mkIdent `Y.g_ne) ?c ?_); (case c => walk_at "rf"))
  | ((with_reducible refine' $(Lean.mkIdent `Y.g_ixL) ?h ?a ?_); (case h => walk_at "sq"); (case a => walk_at "ai"))
  | ((with_reducible refine' $(Lean.mkIdent `Y.g_pk2) ?h ?gxs ?a ?b fun v hv => ?_); (case h => walk_at "at"); (case gxs => with_reducible rfl); (case a => first | with_reducible assumption | omega); (case b => first | with_reducible assumption | omega))
  | ((with_reducible refine' $(Lean.mkIdent `Y.g_pk4) ?h ?gxs ?a ?b fun v hv => ?_); (case h => walk_at "at"); (case gxs => with_reducible rfl); (case a => first | with_reducible assumption | omega); (case b => first | with_reducible assumption | omega))
  | ((with_reducible refine' $(Lean.mkIdent `Y.g_pk5) ?h ?gxs ?a ?b fun v hv => ?_); (case h => walk_at "at"); (case gxs => with_reducible rfl); (case a => first | with_reducible assumption | omega); (case b => first | with_reducible assumption | omega))
  | ((with_reducible refine' $(Lean.mkIdent `Y.g_pickL) ?h ?a ?b ?e fun v hv => ?_); (case h => walk_at "at"); (case a => first | with_reducible assumption | omega); (case b => first | with_reducible assumption | omega); (case e => exact rfl))
  | ((with_reducible refine' $(Lean.mkIdent `Y.g_ixT) ?h ?a ?_); (case h => walk_at "sq"); (case a => walk_at "ai"))
  | ((with_reducible refine' $(Lean.mkIdent `Y.g_setL) ?h ?a ?_); (case h => walk_at "at"); (case a => walk_at "ai"))
  | ((with_reducible refine' $(Lean.mkIdent `Y.g_len) ?h ?_); (case h => walk_at "sq"))
  | (with_reducible refine $(Lean.mkIdent `Y.g_call) ?_)
  | (with_reducible refine $(Lean.mkIdent `Y.g_tB) ?_)
  | (with_reducible refine $(Lean.mkIdent `Y.g_un) ?_)
  | (with_reducible refine $(Lean.mkIdent `Y.g_if) ?_)
  | (with_reducible refine $(Lean.mkIdent `Y.g_and) ?_)
  | (with_reducible refine $(Lean.mkIdent `Y.g_or) ?_)
  | (with_reducible refine $(Lean.mkIdent `Y.g_not) ?_)
  | (with_reducible refine $(Lean.mkIdent `Y.g_tTup) ?_)
  | (with_reducible refine $(Lean.mkIdent `Y.g_tLst) ?_)
  | (with_reducible refine $(Lean.mkIdent `Y.g_sl) ?_)
  | (with_reducible refine $(Lean.mkIdent `Y.g_pt) ?_)
  | (with_reducible refine $(Lean.mkIdent `Y.g_np) ?_)
  | (with_reducible refine $(Lean.mkIdent `Y.g_bm) ?_)
  | (with_reducible refine $(Lean.mkIdent `Y.g_bm0) ?_)
  | (with_reducible refine $(Lean.mkIdent `Y.g_andV) ?_)
  | (with_reducible refine $(Lean.mkIdent `Y.g_orV) ?_)
  | (with_reducible refine $(Lean.mkIdent `Y.g_notV) ?_)
  | (with_reducible refine $(Lean.mkIdent `Y.g_chain) ?_)
  | (with_reducible refine $(Lean.mkIdent `Y.g_ret) ?_)
  | (with_reducible refine $(Lean.mkIdent `Y.g_drop) ?_)
  | (with_reducible refine $(Lean.mkIdent `Y.g_next) ?_)
  | (with_reducible refine $(Lean.mkIdent `Y.g_sub) ?_)
  | (with_reducible refine $(Lean.mkIdent `Y.g_gcons) ?_)
  | (with_reducible refine $(Lean.mkIdent `Y.g_gnil) ?_)
  | (with_reducible refine $(Lean.mkIdent `Y.g_yes) ?_)
  | (with_reducible refine $(Lean.mkIdent `Y.g_tru) ?_)
  | (with_reducible refine $(Lean.mkIdent `Y.g_truB) ?_)
  | (with_reducible refine $(Lean.mkIdent `Y.g_lstRg) ?_)
  | (with_reducible refine $(Lean.mkIdent `Y.g_rg2) ?_)
  | (with_reducible refine $(Lean.mkIdent `Y.g_exII) ?_)
  | (with_reducible refine $(Lean.mkIdent `Y.g_exI) ?_)
  | (with_reducible refine $(Lean.mkIdent `Y.g_rng1) ?_)
  | (with_reducible refine $(Lean.mkIdent `Y.g_rng2) ?_)
  | (with_reducible refine $(Lean.mkIdent `Y.g_iList) ?_)
  | (with_reducible refine $(Lean.mkIdent `Y.g_iTup) ?_)
  | (with_reducible refine $(Lean.mkIdent `Y.g_for) ?_)
  | (with_reducible refine $(Lean.mkIdent `Y.g_lc) ?_)
  | (with_reducible refine $(Lean.mkIdent `Y.g_rI0) ?_)
  | (with_reducible refine $(Lean.mkIdent `Y.g_isN) ?_)
  | (with_reducible refine $(Lean.mkIdent `Y.g_notN) ?_)
  | (with_reducible refine $(Lean.mkIdent `Y.g_neg) ?_)
  | (with_reducible refine $(Lean.mkIdent `Y.g_max2) ?_)
  | (with_reducible refine $(Lean.mkIdent `Y.g_min2) ?_)
  | (with_reducible refine $(Lean.mkIdent `Y.g_bl) ?_)
  | ((with_reducible refine' $(Lean.mkIdent `Y.g_slTo) ?n ?h fun p hp => ?_); (case n => walk_at "sd"); (case h => walk_at "sq"))
  | ((with_reducible refine' $(Lean.mkIdent `Y.g_slFrom) ?n ?h fun p hp => ?_); (case n => walk_at "sd"); (case h => walk_at "sq"))
  | ((with_reducible refine' $(Lean.mkIdent `Y.g_slMid) ?n0 ?n1 ?h fun p hp => ?_); (case n0 => walk_at "sd"); (case n1 => walk_at "sd"); (case h => walk_at "sq"))
  | ((with_reducible refine' $(Lean.mkIdent `Y.g_slL) ?h fun p hp => ?_); (case h => walk_at "sq"))
  | ((with_reducible refine' $(Lean.mkIdent `Y.g_extend) ?h ?h2 ?z ?_); (case h => walk_at "at"); (case h2 => walk_at "at"); (case z => walk_at "sd"))
  | ((with_reducible refine' $(Lean.mkIdent `Y.g_cat) ?h ?h2 ?z fun l hl => ?_); (case h => walk_at "at"); (case h2 => walk_at "at"); (case z => walk_at "sd"))
  | ((with_reducible refine' $(Lean.mkIdent `Y.g_is_whole) ?hh ?_); (case hh => walk_at "ad"))
  | ((with_reducible refine' $(Lean.mkIdent `Y.g_is_day) ?hh ?_); (case hh => walk_at "ad"))
  | ((with_reducible refine' $(Lean.mkIdent `Y.g_is_two_days) ?hh ?_); (case hh => walk_at "ad"))
  | ((with_reducible refine' $(Lean.mkIdent `Y.g_is_stretch) ?hh ?_); (case hh => walk_at "ad"))
  | ((with_reducible refine' $(Lean.mkIdent `Y.g_is_coins) ?hh ?_); (case hh => walk_at "ad"))
  | ((with_reducible refine' $(Lean.mkIdent `Y.g_is_nights) ?hh ?_); (case hh => walk_at "ad"))
  | (with_reducible refine $(Lean.mkIdent `Y.g_tMake) ?_)
  | ((with_reducible refine' $(Lean.mkIdent `Y.g_mkPrice) ?cf fun v H' hs hi => ?_); (case cf => with_reducible assumption))
  | ((with_reducible refine' $(Lean.mkIdent `Y.g_mkCome) ?cf fun v H' hs hi => ?_); (case cf => with_reducible assumption))
  | ((with_reducible refine' $(Lean.mkIdent `Y.g_mkGo) ?cf fun v H' hs hi => ?_); (case cf => with_reducible assumption))
  | ((with_reducible refine' $(Lean.mkIdent `Y.g_mkLeast) ?cf fun v H' hs hi => ?_); (case cf => with_reducible assumption))
  | ((with_reducible refine' $(Lean.mkIdent `Y.g_mkMost) ?cf fun v H' hs hi => ?_); (case cf => with_reducible assumption))
  | ((with_reducible refine' $(Lean.mkIdent `Y.g_mkDeal) ?cf fun v H' hs hi => ?_); (case cf => with_reducible assumption))
  | ((with_reducible refine' $(Lean.mkIdent `Y.g_mkFee) ?cf fun v H' hs hi => ?_); (case cf => with_reducible assumption))
  | ((with_reducible refine' $(Lean.mkIdent `Y.g_rule) ?ha ?hi ?no ?_); (case ha => exact rfl); (case hi => walk_at "ins"); (case no => exact rfl))
  | (with_reducible refine $(Lean.mkIdent `Y.g_word) ?_)
  | ((with_reducible refine' $(Lean.mkIdent `Y.g_fits) ?cf ?hi ?hh ?_); (case cf => with_reducible assumption); (case hi => walk_at "ins"); (case hh => walk_at "ad"))
  | ((with_reducible refine' $(Lean.mkIdent `Y.g_told) ?cf ?hi fun p H' hs hf ha => ?_); (case cf => with_reducible assumption); (case hi => walk_at "ins"))
  | ((with_reducible refine' $(Lean.mkIdent `Y.g_tells) ?cf ?hi ?_); (case cf => with_reducible assumption); (case hi => walk_at "ins"))
  | ((with_reducible refine' $(Lean.mkIdent `Y.g_first) ?cf ?ha ?hi ?_); (case cf => with_reducible assumption); (case ha => exact rfl); (case hi => walk_at "ins"))
  | ((with_reducible refine' $(Lean.mkIdent `Y.g_last) ?cf ?ha ?hi ?_); (case cf => with_reducible assumption); (case ha => exact rfl); (case hi => walk_at "ins"))
  | ((with_reducible refine' $(Lean.mkIdent `Y.g_worth) ?cf ?ha ?hi ?_); (case cf => with_reducible assumption); (case ha => exact rfl); (case hi => walk_at "ins"))
  | ((with_reducible refine' $(Lean.mkIdent `Y.g_Lcoins) ?T fun i H' T' k' h0 h1 => ?_); (case T => walk_at "tp"))
  | ((with_reducible refine' $(Lean.mkIdent `Y.g_Lworth) ?T fun v d H' T' k' ht hf => ?_); (case T => walk_at "tp"))
  | ((with_reducible refine' $(Lean.mkIdent `Y.g_Lrule) ?T ?c0 ?c1 fun v r H' T' k' hr hg => ?_); (case T => walk_at "tp"); (case c0 => walk_at "sd"); (case c1 => walk_at "sd"))
  | ((with_reducible refine' $(Lean.mkIdent `Y.g_bmeth) ?ha ?hi ?no ?_); (case ha => exact rfl); (case hi => walk_at "bk"); (case no => decide))
  | ((with_reducible refine' $(Lean.mkIdent `Y.g_robj) ?hi ?no ?_); (case hi => walk_at "bk"); (case no => decide))
  | ((with_reducible refine' $(Lean.mkIdent `Y.g_brulesR) ?cf ?cb ?hi ?hl fun p H' ys hs hf ha hy => ?_); (case cf => with_reducible assumption); (case cb => with_reducible assumption); (case hi => walk_at "bk"); (case hl => walk_at "sd"))
  | ((with_reducible refine' $(Lean.mkIdent `Y.g_brules) ?cf ?cb ?hi ?hl fun p H' ys hs hf ha hy => ?_); (case cf => with_reducible assumption); (case cb => with_reducible assumption); (case hi => walk_at "bk"); (case hl => walk_at "sd"))
  | ((with_reducible refine' $(Lean.mkIdent `Y.g_tellsZ) ?cf ?cb ?hi ?ez fun x H' hs hx => ?_); (case cf => with_reducible assumption); (case cb => with_reducible assumption); (case hi => walk_at "bk"); (case ez => walk_at "wd"))
  | ((with_reducible refine' $(Lean.mkIdent `Y.g_tells_of) ?cf ?cb ?hi fun x H' hs hx => ?_); (case cf => with_reducible assumption); (case cb => with_reducible assumption); (case hi => walk_at "bk"))
  | (with_reducible refine $(Lean.mkIdent `Y.g_usual) ?_)
  | ((with_reducible refine' $(Lean.mkIdent `Y.g_insert0) ?h ?z ?_); (case h => walk_at "at"); (case z => walk_at "sd"))
  | (with_reducible refine $(Lean.mkIdent `Y.g_rng3) ?_)
  | (with_reducible refine $(Lean.mkIdent `Y.g_revS) ?_)
  | ((with_reducible refine' $(Lean.mkIdent `Y.g_revSb) ?h fun l hl => ?_); (case h => walk_at "sq"))
  | ((with_reducible refine' $(Lean.mkIdent `Y.g_listOf) ?h fun p hp => ?_); (case h => walk_at "sq"))
  | ((with_reducible refine' $(Lean.mkIdent `Y.g_append) ?h ?z ?_); (case h => walk_at "at"); (case z => walk_at "sd"))
  | ((with_reducible refine' $(Lean.mkIdent `Y.g_gtup) ?h ?l ?_); (case h => walk_at "sq"); (case l => walk_at "rf"))
  | ((with_reducible refine' $(Lean.mkIdent `Y.g_tyL) ?h ?_); (case h => walk_at "sq"))
  | ((with_reducible refine $(Lean.mkIdent `Y.g_rng1b) ?a ?b ?_); (case a => walk_at "sd"); (case b => walk_at "sd"))
  | ((with_reducible refine $(Lean.mkIdent `Y.g_rng2b) ?a ?_); (case a => walk_at "sd"))
  | ((with_reducible refine' $(Lean.mkIdent `Y.g_iListb) ?h ?_); (case h => walk_at "sq"))
  | (with_reducible refine $(Lean.mkIdent `Y.g_begin) fun t H' hs hf T => ?_)
  | ((with_reducible refine' $(Lean.mkIdent `Y.g_cell_at) ?h fun c => ?_); (case h => walk_at "sq"))
  | ((with_reducible refine' $(Lean.mkIdent `Y.g_sortedP) ?h ?p fun p ys us hp hy hq hw => ?_); (case h => walk_at "sq"); (case p => walk_at "prs"))
  | walk_at "isi"
  | ((with_reducible refine' $(Lean.mkIdent `Y.g_nights) ?h ?b fun p H' hs hp he => ?_); (case h => walk_at "sq"); (case b => exact ⟨by omega, by omega, by omega, by omega⟩))
  | (with_reducible refine $(Lean.mkIdent `Y.g_tAny) ?_)
  | ((with_reducible refine' $(Lean.mkIdent `Y.g_robjA) ?hi ?_); (case hi => walk_at "bk"))
  | ((with_reducible refine' $(Lean.mkIdent `Y.g_tellsA) ?cf ?cb ?hi ?ez fun x H' hs hx => ?_); (case cf => with_reducible assumption); (case cb => with_reducible assumption); (case hi => walk_at "bk"); (case ez => walk_at "wd"))
  | ((with_reducible refine' $(Lean.mkIdent `Y.g_isK) ?ce ?h ?mx ?my ?_); (case ce => with_reducible assumption); (case h => walk_at "xa"); (case mx => decide); (case my => decide))
  | ((with_reducible refine' $(Lean.mkIdent `Y.g_isKV) ?ce ?h ?mx ?_); (case ce => with_reducible assumption); (case h => walk_at "xa"); (case mx => decide))
  | (with_reducible refine $(Lean.mkIdent `Y.g_xat0) ?_)
  | ((with_reducible refine' $(Lean.mkIdent `Y.g_xat) ?h ?ci ?_); (case h => walk_at "xa"); (case ci => with_reducible assumption))
  | ((with_reducible refine' $(Lean.mkIdent `Y.ite_subF) ?h ?_); (case h => decide))
  | ((with_reducible refine' $(Lean.mkIdent `Y.ite_subT) ?h ?_); (case h => decide))
  | (with_reducible refine $(Lean.mkIdent `Y.g_tryK) ?_)
  | (with_reducible refine $(Lean.mkIdent `Y.g_tMakeX) ?_)
  | (with_reducible refine $(Lean.mkIdent `Y.g_dg) ?_)
  | (with_reducible refine $(Lean.mkIdent `Y.g_din) ?_)
  | (with_reducible refine $(Lean.mkIdent `Y.g_dnin) ?_)
  | (with_reducible refine $(Lean.mkIdent `Y.g_sdput) ?_)
  | ((with_reducible refine' $(Lean.mkIdent `Y.di_get) ?h ?e fun v hv => ?_); (case h => walk_at "dc"); (case e => with_reducible assumption))
  | ((with_reducible refine' $(Lean.mkIdent `Y.di_in) ?h fun o ho => ?_); (case h => walk_at "dc"); rw [ho])
  | (with_reducible refine $(Lean.mkIdent `Y.g_callX) ?_)
  | fail)
local macro_rules | `(tactic| walk_at "ss") => `(tactic| repeat walk_at "s1")
local macro_rules | `(tactic| walk_at "st") => `(tactic| repeat (first | walk_at "s1" | (with_reducible refine $(Lean.mkIdent `Y.g_seq) ?_)))
def t_Ltake (K : PySem.W.Frag) : TS :=
  (tSeq (tIfS (tTest (tOp rGt (tOp (rIxL K) (tVar 0) (tC (.int 0))) (tC (.int 0))))
  (tSeq (tAsg (tOp rMod (tOp (rIxL K) (tVar 0) (tC (.int 0))) (tVar 1)) (gName 2))
  (tSeq (tAsg (tOp rDivW (tOp (rIxL K) (tVar 0) (tC (.int 0))) (tVar 1)) (gSub (tVar 0) (tC (.int 0)) rSetL))
  (tRet (tVar 2))))
  tNext)
  (tSeq (tAsg (tOp rMod (tOp rAdd (tOp rMul (tOp (rIxL K) (tVar 0) (tC (.int 1))) (tC (.int 48271))) (tC (.int 11))) (tC (.int 2147483647))) (gSub (tVar 0) (tC (.int 1)) rSetL))
  (tSeq (tAsg (tOp rMod (tOp rAdd (tOp rAdd (tOp rMul (tOp (rIxL K) (tVar 0) (tC (.int 1))) (tOp (rIxL K) (tVar 0) (tC (.int 1)))) (tOp rMul (tC (.int 69621)) (tOp (rIxL K) (tVar 0) (tC (.int 1))))) (tC (.int 7))) (tC (.int 2147483629))) (gName 3))
  (tRet (tOp rMod (tOp rDivW (tVar 3) (tC (.int 64))) (tVar 1))))))
theorem pure_Ltake {K : PySem.W.Frag} {x y : V} {H : Hp} {Q : VK} {E : XK} (h : sp_Ltake K [x, y] H Q E) : t_Ltake K { nx := fun _ H' => Q .non H', rt := Q } [some x, some y, none, none] H := by
  obtain ⟨x, y, e, t, b, s, m, rfl, rfl, ⟨rfl, rfl, a, c, ht, ha, hc, hc2⟩, hm0, hm9, q⟩ := h
  cases e
  unfold t_Ltake
  with_reducible refine g_seq ?_
  walk_at "ss"
  refine ite_d (fun z => ?_) fun z => ?_
  · with_reducible refine g_seqA ?_
    walk_at "ss"
    exact q _ _ (Int.emod_nonneg _ (by omega)) (Int.emod_lt_of_pos _ hm0) ⟨rfl, rfl, _, _, upd_same, Int.ediv_nonneg ha (by omega), hc, hc2⟩ (kp_upd (by simp))
  · walk_at "ss"
    have e0 : 0 ≤ (c * 48271 + 11) % 2147483647 := Int.emod_nonneg _ (by decide)
    have e1 : (c * 48271 + 11) % 2147483647 < 2147483647 := Int.emod_lt_of_pos _ (by decide)
    exact q _ _ (Int.emod_nonneg _ (by omega)) (Int.emod_lt_of_pos _ hm0) ⟨rfl, rfl, _, _, upd_same, ha, e0, by omega⟩ (kp_upd (by simp))
def t_Lbegin (K : PySem.W.Frag) : TS :=
  (tSeq (tIfS (tTest (tOp rGe (tVar 0) (tOp rPow (tC (.int 10)) (tC (.int 18)))))
  (tRet (tLst (tCons (tOp rSub (tVar 0) (tOp rPow (tC (.int 10)) (tC (.int 18)))) (tCons (tC (.int 0)) tNil))))
  tNext)
  (tRet (tLst (tCons (tC (.int 0)) (tCons (tOp rAdd (tOp rMod (tVar 0) (tC (.int 2147483629))) (tC (.int 11))) tNil)))))
theorem pure_Lbegin {K : PySem.W.Frag} {x : V} {H : Hp} {Q : VK} {E : XK} (h : sp_Lbegin K [x] H Q E) : t_Lbegin K { nx := fun _ H' => Q .non H', rt := Q } [some x] H := by
  obtain ⟨x, e, c, rfl, q⟩ := h
  cases e
  unfold t_Lbegin
  walk_at "ss"
  refine ite_d (fun z => ?_) fun z => ?_
  · walk_at "ss"
    rename_i t ht
    exact q t _ (same_new ht) ht ⟨rfl, rfl, _, _, upd_same, by omega, by decide, by decide⟩
  · walk_at "ss"
    rename_i t ht
    have e0 : 0 ≤ c % 2147483629 := Int.emod_nonneg _ (by decide)
    have e1 : c % 2147483629 < 2147483629 := Int.emod_lt_of_pos _ (by decide)
    exact q t _ (same_new ht) ht ⟨rfl, rfl, _, _, upd_same, by decide, by omega, by omega⟩
def t_Lcell_at (K : PySem.W.Frag) : TS :=
  (tSeq (tIfS (tTest (tOp rLt (tVar 1) (tCB (rLen K) (tCons (tVar 0) tNil))))
  (tRet (tOp (rIxL K) (tVar 0) (tVar 1)))
  tNext)
  (tRet (tC (.int 0))))
theorem pure_Lcell_at {K : PySem.W.Frag} {x y : V} {H : Hp} {Q : VK} {E : XK} (h : sp_Lcell_at K [x, y] H Q E) : t_Lcell_at K { nx := fun _ H' => Q .non H', rt := Q } [some x, some y] H := by
  obtain ⟨x, y, e, a, ns, i, rfl, rfl, hs, q⟩ := h
  cases e
  unfold t_Lcell_at
  walk_at "ss"
  refine ite_d (fun z => ?_) fun z => ?_
  · rw [List.length_map] at z
    have hi : i < ns.length := by omega
    have hat : atI (ns.map V.int) (i : Int) = some (.int ns[i]) := atI_nat (by rw [List.getElem?_map, List.getElem?_eq_getElem hi]; rfl)
    walk_at "ss"
    exact q _
  · walk_at "ss"
    exact q _
/-! Y2: days, stays, nights. -/
open PySem PySem.Spec PyProof.Rows L2
def sp_nights_of (K : PySem.W.Frag) : Sp := Sp1 fun x H Q E => ∃ (a : Addr) (c g : Int), x = .ref a ∧ SqT K H a [.int c, .int g] ∧ c - 1000 ≤ g ∧ g ≤ c + 1000 ∧ -10000000 ≤ c ∧ c ≤ 10000000 ∧
  ∀ (p : Addr) (H' : Hp), Same H H' → Fr H p → H' p = some (.lst ((days c g).map V.int)) → Q (.ref p) H'
theorem g_nights {K : PySem.W.Frag} {a : Addr} {c g : Int} {H : Hp} {Q : VK} {E : XK} (h : SqT K H a [.int c, .int g]) (b : c - 1000 ≤ g ∧ g ≤ c + 1000 ∧ -10000000 ≤ c ∧ c ≤ 10000000)
    (q : ∀ (p : Addr) (H' : Hp), Same H H' → Fr H p → H' p = some (.lst ((days c g).map V.int)) → Q (.ref p) H') : sp_nights_of K ([.ref a] ++ []) H Q E :=
  ⟨_, rfl, a, c, g, rfl, h, b.1, b.2.1, b.2.2.1, b.2.2.2, q⟩
def t_nights_of (K : PySem.W.Frag) : TS :=
  (tRet (tLstRg (tRg2 (tOp (rIxT K) (tVar 0) (tC (.int 0))) (tOp (rIxT K) (tVar 0) (tC (.int 1))))))
theorem pure_nights_of {K : PySem.W.Frag} {x : V} {H : Hp} {Q : VK} {E : XK} (h : sp_nights_of K [x] H Q E) : t_nights_of K { nx := fun _ H' => Q .non H', rt := Q } [some x] H := by
  obtain ⟨x, e, a, c, g, rfl, hS, h1, h2, h3, h4, q⟩ := h
  cases e
  unfold t_nights_of
  walk_at "ss"
  refine ⟨⟨by omega, by omega, by omega, by omega, by omega⟩, fun p hp => q p _ (same_new hp) hp (by rw [upd_same, rgV_days])⟩
/-! YX: list.count of flat items; range of three arguments. -/
open PySem PySem.Spec PyProof.Rows L2
/-- l.count(y), flat items -/
def rCntV (K : PySem.W.Frag) : V → List V → Hp → VK → Prop := fun x vs H Q => ∃ (p : Addr) (xs : List V) (y : V), x = .ref p ∧ vs = [y] ∧ flatV y = true ∧ xs.all flatV = true ∧ SqL K H p xs ∧ Q (.int (xs.countP fun z => eqV z y : Nat)) H
theorem cnt_eqU {x : V} : ∀ {xs : List V} {us : List Value}, Vals xs us → xs.all flatV = true → us.countP (eqU x) = xs.countP fun y => eqV y x
  | _, _, .nil, _ => rfl
  | y :: xs, u :: us, .cons r t, f => by
    rw [List.all_cons, Bool.and_eq_true] at f
    rw [List.countP_cons, List.countP_cons, cnt_eqU t f.2, eqU_of r f.1]
theorem mt_cntV {X : Cx} : MtR X "list.count" (rCntV X.K) := by
  intro pins s σ H x xs v us Q I rx rxs h
  obtain ⟨p, ys, y, rfl, rfl, fy, fs, hs, q⟩ := h
  cases rx
  obtain ⟨u, rfl, ru⟩ := rxs.one
  obtain ⟨its, rv, ⟨⟨cls, dd, data, sl⟩, n, ho, hc, hdn, hd⟩, hlen⟩ := I.list hs
  simp only at hc hd
  subst hc hd
  refine call_meets PySem.F.slot_list_count ⟨_, ho, rfl⟩ PySem.F.entry_list_count (PySem.F.args_list_count_2 _ _) (SeqAt.list_countAt p its.toArray n dd sl u (eqU y))
    ⟨ho, fun z hz => mem_eqAt ru fy rv fs z (by simpa using hz), ?_⟩
  refine ⟨.int (ys.countP fun z => eqV z y : Nat), H, I.tok _, ⟨s.toks, ?_⟩, q⟩
  show Value.int ((its.toArray.toList.countP (eqU y) : Nat) : Int) s.toks = Value.int ((ys.countP fun z => eqV z y : Nat) : Int) s.toks
  rw [show its.toArray.toList = its by simp, cnt_eqU rv fs]
theorem g_cntV {K : PySem.W.Frag} {H : Hp} {Q : VK} {p : Addr} {xs : List V} {y : V} (h : SqL K H p xs) (f : flatV y = true) (fs : xs.all flatV = true) (q : Q (.int (xs.countP fun z => eqV z y : Nat)) H) : rCntV K (.ref p) [y] H Q := ⟨p, xs, y, rfl, rfl, f, fs, h, q⟩
theorem rg_up {n c : Nat} (hc : 0 < c) (hc2 : c < 1000000) (hn : n < 1000000) : RgC 0 ((n : Int) - c + 1) c (n / c) := by
  have e : Builtin.Range.rangeSize 0 ((n : Int) - c + 1) c = ((n / c : Nat) : Int) := by
    unfold Builtin.Range.rangeSize
    rw [if_pos (by omega)]
    by_cases h : c ≤ n
    · rw [if_pos (by omega)]
      have e1 : (n : Int) - c + 1 - 0 - 1 = ((n - c : Nat) : Int) := by omega
      rw [e1]
      have e2 : n / c = (n - c) / c + 1 := by
        have := Nat.sub_mul_div n c 1
        have h3 : 0 < n / c := Nat.div_pos h hc
        rw [Nat.mul_one] at this
        omega
      rw [e2]
      norm_cast
    · rw [if_neg (by omega), Nat.div_eq_of_lt (by omega)]
      rfl
  refine ⟨by omega, by omega, ?_, e⟩
  have h1 : n / c ≤ n := Nat.div_le_self n c
  unfold Builtin.Range.small
  rw [e]
  simp only [Builtin.Range.rangeFitsLong, Bool.and_eq_true, Bool.or_eq_true, decide_eq_true_eq, beq_iff_eq]
  rw [if_pos (show (c : Int) > 0 by omega)]
  simp only [Bool.and_eq_true, decide_eq_true_eq]
  generalize n / c = k at h1
  omega
/-! Y8: marked: which nights of bundles are free. -/
open PySem PySem.Spec PyProof.Rows L2
/-! ### the plain law -/
def ltP (a b : Pr) : Bool := decide (a.1 < b.1) || (decide (a.1 = b.1) && decide (a.2 < b.2))
theorem ltP_iff {a b : Pr} : ltP a b = true ↔ a.1 < b.1 ∨ (a.1 = b.1 ∧ a.2 < b.2) := by
  unfold ltP
  simp
def key (ps : List Int) (p : Nat) : Pr := (ps.getD p 0, (ps.length : Int) - p)
theorem key_inj {ps : List Int} {p q : Nat} (h : key ps p = key ps q) : p = q := by
  have := congrArg Prod.snd h
  simp only [key] at this
  omega
def bund (ps : List Int) (m b : Nat) : List Pr := (List.range m).map fun i => key ps (b * m + i)
def rank (ps : List Int) (m p : Nat) : Nat := (bund ps m (p / m)).countP fun k => ltP k (key ps p)
def isMk (ps : List Int) (m f p : Nat) : Bool := decide (p / m < ps.length / m) && decide (rank ps m p < f)
def mk (ps : List Int) (m f : Nat) : List Bool := (List.range ps.length).map fun p => isMk ps m f p
def mkO (ps : List Int) : Option (Int × Int) → List Bool
  | none => List.replicate ps.length false
  | some d => mk ps d.1.toNat d.2.toNat
theorem mkO_len (ps : List Int) (d : Option (Int × Int)) : (mkO ps d).length = ps.length := by
  cases d with
  | none => simp [mkO]
  | some d => simp [mkO, mk]
/-- in a list that rises strictly the first f are those with fewer than f below -/
theorem take_rank : ∀ {us : List Pr}, us.Pairwise (fun a b => ltP a b = true) → ∀ {x : Pr}, x ∈ us → ∀ f : Nat, x ∈ us.take f ↔ us.countP (fun k => ltP k x) < f
  | [], _, x, hx, f => by cases hx
  | u :: r, h, x, hx, f => by
    obtain ⟨h1, h2⟩ := List.pairwise_cons.mp h
    have irr : ∀ a : Pr, ltP a a = false := fun a => by
      rw [← Bool.not_eq_true, ltP_iff]
      omega
    cases f with
    | zero => simp
    | succ f =>
      rw [List.take_succ_cons, List.countP_cons]
      rcases List.mem_cons.mp hx with e | hx
      · subst e
        have e0 : r.countP (fun k => ltP k x) = 0 := List.countP_eq_zero.mpr fun k hk hh => by
          have h3 := ltP_iff.mp (h1 k hk)
          have h4 := ltP_iff.mp hh
          omega
        rw [e0, irr]
        simp
      · have hux := h1 x hx
        have nx : x ≠ u := fun e => by rw [e, irr] at hux; cases hux
        rw [hux, if_pos rfl]
        have ih := take_rank h2 hx f
        constructor
        · intro hm
          rcases List.mem_cons.mp hm with e | hm
          · exact absurd e nx
          · have := ih.mp hm
            omega
        · intro hm
          exact List.mem_cons_of_mem _ (ih.mpr (by omega))
theorem mem_bund {ps : List Int} {m b p : Nat} (hm : 0 < m) : key ps p ∈ bund ps m b ↔ p / m = b := by
  unfold bund
  rw [List.mem_map]
  constructor
  · rintro ⟨i, hi, e⟩
    have := key_inj e
    have hi' := List.mem_range.mp hi
    rw [← this, Nat.mul_comm, Nat.mul_add_div hm, Nat.div_eq_of_lt hi']
    omega
  · rintro rfl
    exact ⟨p % m, List.mem_range.mpr (Nat.mod_lt _ hm), by rw [Nat.mul_comm, Nat.div_add_mod]⟩
theorem nodup_bund (ps : List Int) (m b : Nat) : (bund ps m b).Nodup := by
  unfold bund
  refine List.Pairwise.map _ (fun i j (h : i ≠ j) e => h ?_) List.nodup_range
  have := key_inj e
  omega
/-- the sorted bundle rises strictly -/
theorem sorted_strict {ps : List Int} {m b : Nat} {us : List Pr} (hp : us.Perm (bund ps m b)) (ho : us.Pairwise fun p q => p.1 < q.1 ∨ (p.1 = q.1 ∧ p.2 ≤ q.2)) : us.Pairwise fun a b => ltP a b = true := by
  have nd : us.Nodup := hp.nodup_iff.mpr (nodup_bund ps m b)
  refine (ho.and nd).imp fun {x y} h => ltP_iff.mpr ?_
  rcases h.1 with h1 | ⟨h1, h2⟩
  · exact .inl h1
  · refine .inr ⟨h1, ?_⟩
    by_cases e : x.2 = y.2
    · exact absurd (Prod.ext h1 e) h.2
    · omega
theorem mem_take {ps : List Int} {m b f p : Nat} (hm : 0 < m) {us : List Pr} (hp : us.Perm (bund ps m b)) (ho : us.Pairwise fun p q => p.1 < q.1 ∨ (p.1 = q.1 ∧ p.2 ≤ q.2)) :
    key ps p ∈ us.take f ↔ p / m = b ∧ rank ps m p < f := by
  have hs := sorted_strict hp ho
  constructor
  · intro h
    have hu := List.mem_of_mem_take h
    have hb := (mem_bund hm).mp (hp.mem_iff.mp hu)
    refine ⟨hb, ?_⟩
    unfold rank
    rw [hb, ← hp.countP_eq]
    exact (take_rank hs hu f).mp h
  · rintro ⟨rfl, h⟩
    have hu := hp.mem_iff.mpr ((mem_bund hm).mpr rfl)
    refine (take_rank hs hu f).mpr ?_
    rw [hp.countP_eq]
    exact h
theorem set_map {β : Type} (n p : Nat) (f : Nat → β) (v : β) : ((List.range n).map f).set p v = (List.range n).map fun q => if q = p then v else f q := by
  apply List.ext_getElem (by simp)
  intro i h1 h2
  rw [List.getElem_set]
  simp
  by_cases h : p = i
  · rw [if_pos h, if_pos h.symm]
  · rw [if_neg h, if_neg (Ne.symm h)]
theorem ix_nat {n p : Nat} {i : Int} (e : i = p) (h : p < n) : ixN n i = some p := by
  subst e
  unfold ixN
  simp
  exact h
/-! ### the walk -/
def DealAt (H : Hp) (y : V) : Option (Int × Int) → Prop
  | none => y = .non
  | some d => PrAt H y d ∧ 0 < d.1 ∧ d.1 ≤ 1000 ∧ 0 ≤ d.2
def sp_marked (K : PySem.W.Frag) : Sp := Sp2 fun x y H Q E => ∃ (a : Addr) (ps : List Int) (d : Option (Int × Int)), x = .ref a ∧ SqL K H a (ps.map V.int) ∧ ps.length ≤ 1000 ∧ DealAt H y d ∧
  ∀ (l : Addr) (H' : Hp), Same H H' → Fr H l → H' l = some (.lst ((mkO ps d).map V.bl)) → Q (.ref l) H'
theorem g_marked {K : PySem.W.Frag} {a : Addr} {y : V} {ps : List Int} {H : Hp} {Q : VK} {E : XK} (d : Option (Int × Int)) (h : SqL K H a (ps.map V.int)) (hl : ps.length ≤ 1000) (hd : DealAt H y d)
    (q : ∀ (l : Addr) (H' : Hp), Same H H' → Fr H l → H' l = some (.lst ((mkO ps d).map V.bl)) → Q (.ref l) H') : sp_marked K ([.ref a, y] ++ []) H Q E := ⟨_, y, rfl, a, ps, d, rfl, h, hl, hd, q⟩
theorem range_no (n : Nat) : (List.range n).filterMap (fun _ => some (V.bl false)) = (List.replicate n false).map V.bl := by
  induction n with
  | zero => rfl
  | succ n ih => rw [List.range_succ, List.filterMap_append, ih, List.replicate_succ']; simp
def t_marked (K : PySem.W.Frag) : TS :=
  (tSeq (tAsg (tLc (iList K (tVar 0)) (gName 2) tYes (tC (.bl false)) [2]) (gName 3))
  (tSeq (tIfS (tTest (tOp rIsN (tVar 1) (tC .non)))
  (tRet (tVar 3))
  tNext)
  (tSeq (tAsg (tVar 1) (gTup K 2 (gCons (gName 4) (gCons (gName 5) gNil))))
  (tSeq (tFor (iRng3 (tCons (tC (.int 0)) (tCons (tOp rAdd (tOp rSub (tCB (rLen K) (tCons (tVar 0) tNil)) (tVar 4)) (tC (.int 1))) (tCons (tVar 4) tNil)))) (gName 6)
  (tSeq (tAsg (tCB (rSortedPO K) (tCons (tLc (iRng2 (tCons (tVar 6) (tCons (tOp rAdd (tVar 6) (tVar 4)) tNil))) (gName 9) tYes (tTup (tCons (tOp (rIxL K) (tVar 0) (tVar 9)) (tCons (tOp rSub (tCB (rLen K) (tCons (tVar 0) tNil)) (tVar 9)) tNil))) [9]) tNil)) (gName 7))
  (tFor (iList K (tSl (rSlL K) (tVar 7) tNoPart (tPart (tVar 5)))) (gTup K 2 (gCons (gName 2) (gCons (gName 8) gNil)))
  (tAsg (tC (.bl true)) (gSub (tVar 3) (tOp rSub (tCB (rLen K) (tCons (tVar 0) tNil)) (tVar 8)) rSetL)))))
  (tRet (tVar 3))))))
theorem pure_marked {K : PySem.W.Frag} {x y : V} {H : Hp} {Q : VK} {E : XK} (h : sp_marked K [x, y] H Q E) : t_marked K { nx := fun _ H' => Q .non H', rt := Q } [some x, some y, none, none, none, none, none, none, none, none] H := by
  obtain ⟨x, y, e, a, ps, d, rfl, hS, hl, hd, q⟩ := h
  cases e
  unfold t_marked
  walk_at "ss"
  refine lc_w (f := fun _ => some (.bl false)) (walk_list (K := K) (a := a) (xs := ps.map V.int)) (by rw [List.length_map]; omega) (fun H' s => Same.seq s hS) ?_ ?_
  · rintro D i x H2 H3 N hD hi hs ⟨rfl, hx⟩ hN _
    walk_at "ss"
    exact hN _ _ rfl (Same.refl _)
  intro D H1 hD s1 hD1
  rw [range_no, List.length_map] at hD1
  walk_at "ss"
  cases d with
  | none =>
    obtain rfl : y = .non := hd
    refine ite_dt rfl ?_
    walk_at "ss"
    exact q D _ s1 hD hD1
  | some d =>
    obtain ⟨⟨dv, rfl, hdv⟩, hd1, hd2, hd3⟩ := hd
    obtain ⟨m, hm⟩ : ∃ m : Nat, d.1 = m := ⟨d.1.toNat, by omega⟩
    obtain ⟨f, hf⟩ : ∃ f : Nat, d.2 = f := ⟨d.2.toNat, by omega⟩
    rw [hm, hf] at hdv
    refine ite_df (by simp) ?_
    walk_at "ss"
    refine ⟨_, _, _, _, rfl, rg_up (n := (ps.map V.int).length) (c := m) (by omega) (by omega) (by rw [List.length_map]; omega), ?_⟩
    rw [List.length_map]
    have nal : ∀ H2 : Hp, Same H1 H2 → SqL K H2 a (ps.map V.int) := fun H2 s2 => Same.seq (s1.trans s2) hS
    refine for_rangeC (lo := 0) (c := (m : Int)) (n := ps.length / m) (fun b σ H' => ∃ v2 v6 v7 v8, σ = [some (.ref a), some (.ref dv), v2, some (.ref D), some (.int m), some (.int f), v6, v7, v8, none] ∧ Same H H' ∧ H' D = some (.lst (((List.range ps.length).map fun p => decide (p / m < b) && decide (rank ps m p < f)).map V.bl)))
      ⟨_, _, _, _, rfl, s1, ?h0⟩ ?_ ?_
    case h0 =>
      rw [hD1]
      congr 3
      apply List.ext_getElem (by simp)
      intro i h1 h2
      simp
    · clear hD1 s1 nal H1 q
      rintro b σ H1 hb ⟨v2, v6, v7, v8, rfl, s1, hD1⟩
      have hbm : b * m + m ≤ ps.length := by
        have h1 := Nat.div_mul_le_self ps.length m
        have h2 : (b + 1) * m ≤ ps.length / m * m := Nat.mul_le_mul_right m hb
        rw [Nat.add_mul, Nat.one_mul] at h2
        omega
      have hbm' : (b : Int) * (m : Int) = ((b * m : Nat) : Int) := by push_cast; rfl
      rw [hbm']
      walk_at "ss"
      rw [show (0 + ((b * m : Nat) : Int) + (m : Int) - (0 + ((b * m : Nat) : Int))).toNat = m by omega]
      refine lc_r (walk_range (lo := 0 + ((b * m : Nat) : Int)) (n := m)) PrAt (fun _ _ _ _ e h => pr_tk e h) (fun i => some (key ps (b * m + i))) (by omega) (fun _ _ => trivial) ?_ ?_
      · rintro D2 i x H2 H3 N hD2 hi s2 ⟨rfl, rfl⟩ hN _
        have hat : atI (ps.map V.int) (0 + ((b * m : Nat) : Int) + (i : Int)) = some (.int (ps.getD (b * m + i) 0)) := by
          have h1 : b * m + i < ps.length := by omega
          have h2 := atI_nat (xs := ps.map V.int) (j := b * m + i) (v := .int (ps.getD (b * m + i) 0)) (by rw [List.getElem?_map, List.getElem?_eq_getElem h1, List.getD_eq_getElem?_getD, List.getElem?_eq_getElem h1]; rfl)
          rw [show (0 + ((b * m : Nat) : Int) + (i : Int)) = ((b * m + i : Nat) : Int) by omega]
          exact h2
        have hSq : SqL K H3 a (ps.map V.int) := Same.seq (s1.trans s2) hS
        walk_at "ss"
        rename_i p hp
        refine hN _ _ _ rfl (same_new hp) ⟨p, rfl, ?_⟩
        rw [upd_same]
        unfold key
        rw [List.length_map, show (0 + ((b * m : Nat) : Int) + (i : Int)) = ((b * m + i : Nat) : Int) by omega]
      intro D2 H2 ys hD2 s2 h2 hP
      have eb : (List.range m).filterMap (fun i => some (key ps (b * m + i))) = bund ps m b := congrFun (List.filterMap_eq_map (f := fun i => key ps (b * m + i))) (List.range m)
      rw [eb] at hP
      walk_at "ss"
      rename_i p3 zs us hp3 hzs hper hord p4 hp4
      have n1 : p3 ≠ D := by walk_at "ne"
      have n2 : p4 ≠ D := by walk_at "ne"
      have h4 : (upd (upd H2 p3 (.lst zs)) p4 (.lst (cutV zs none (some (f : Int))))) p4 = some (.lst (zs.take f)) := by rw [upd_same, cut_to (by omega), Int.toNat_natCast]
      have hPt : PrsAt (upd (upd H2 p3 (.lst zs)) p4 (.lst (cutV zs none (some (f : Int))))) (zs.take f) (us.take f) := by
        have := Paired.take f hzs
        walk_at "prs"
      refine for_list (K := K) (a := p4) (xs := zs.take f) (fun j σ H' => ∃ v2 v8, σ = [some (.ref a), some (.ref dv), v2, some (.ref D), some (.int m), some (.int f), some (.int (0 + ((b * m : Nat) : Int))), some (.ref p3), v8, none] ∧ Same H H' ∧ H' p4 = some (.lst (zs.take f)) ∧ PrsAt H' (zs.take f) (us.take f) ∧
          H' D = some (.lst (((List.range ps.length).map fun p => (decide (p / m < b) && decide (rank ps m p < f)) || decide (key ps p ∈ (us.take f).take j)).map V.bl)))
        ⟨_, _, rfl, by walk_at "sm", h4, hPt, ?h0⟩ (fun j σ H' _ h => by obtain ⟨_, _, _, _, h, _⟩ := h; exact SqL.of h) ?_ ?_
      case h0 =>
        have hD2 : H2 D = some _ := s2 _ _ hD1
        have := at_new (u := .lst (cutV zs none (some (f : Int)))) hp4 (at_new (u := .lst zs) hp3 hD2)
        rw [this]
        simp
      · clear hPt h4 hp4 hzs hp3 hP h2 s2 H2 hD1 s1 H1 hD2
        rintro j x σ H' hj ⟨v2, v8, rfl, s1, h4, hPt, hD1⟩
        obtain ⟨r, hr, w, rfl, hw⟩ := Paired.getL hPt hj
        have hrm := List.mem_of_getElem? hr
        have hru : r ∈ bund ps m b := hper.mem_iff.mp (List.mem_of_mem_take hrm)
        obtain ⟨i, hi, rfl⟩ := List.mem_map.mp hru
        have hi' := List.mem_range.mp hi
        have hSq : SqL K H' a (ps.map V.int) := Same.seq s1 hS
        have hlt : b * m + i < ps.length := by omega
        walk_at "ss"
        refine g_setL hD1 (ix_nat (p := b * m + i) ?gix1 ?gix2) ?_
        case gix1 =>
          rw [List.length_map]
          unfold key
          show (ps.length : Int) - ((ps.length : Int) - ((b * m + i : Nat) : Int)) = _
          omega
        case gix2 =>
          rw [List.length_map, List.length_map, List.length_range]
          exact hlt
        refine ⟨_, _, rfl, by walk_at "sm", at_ne n2 h4, by walk_at "prs", ?_⟩
        rw [upd_same, show V.bl true = V.bl true from rfl, ← List.map_set, set_map]
        congr 3
        refine List.map_congr_left fun q hq => ?_
        rw [List.take_add_one, hr, Option.toList_some]
        by_cases e : q = b * m + i
        · subst e
          simp
        · have e2 : ¬ key ps q = key ps (b * m + i) := fun h => e (key_inj h)
          simp [e, e2]
      · rintro σ H' ⟨v2, v8, rfl, s1, h4, hPt, hD1⟩
        have hlz := Paired.length hPt
        rw [List.take_of_length_le (Nat.le_of_eq hlz.symm)] at hD1
        refine ⟨_, _, _, _, rfl, s1, ?_⟩
        rw [hD1]
        congr 3
        refine List.map_congr_left fun q hq => ?_
        have hmm : 0 < m := by omega
        have e := mem_take (ps := ps) (m := m) (b := b) (f := f) (p := q) hmm hper hord
        rw [Bool.eq_iff_iff]
        simp only [Bool.or_eq_true, Bool.and_eq_true, decide_eq_true_eq, e]
        constructor
        · rintro (⟨h1, h2⟩ | ⟨h1, h2⟩)
          · exact ⟨by omega, h2⟩
          · exact ⟨by omega, h2⟩
        · rintro ⟨h1, h2⟩
          by_cases h3 : q / m < b
          · exact .inl ⟨h3, h2⟩
          · exact .inr ⟨by omega, h2⟩
    · rintro σ H' ⟨v2, v6, v7, v8, rfl, s1, hD1⟩
      walk_at "ss"
      refine q D _ s1 hD ?_
      rw [hD1]
      unfold mkO
      show _ = some (HO.lst ((mk ps d.1.toNat d.2.toNat).map V.bl))
      rw [hm, hf]
      rfl
/-! YR: a list's items from back to front (a slice of step -1). -/
open PySem PySem.Spec PyProof.Rows L2
theorem range_get' {α : Type} (l : List α) (n : Nat) : (List.range n).filterMap (fun k => l[k]?) = l.take n := by
  induction n with
  | zero => simp
  | succ n ih =>
    rw [List.range_succ, List.filterMap_append, ih, List.take_add_one]
    cases e : l[n]? <;> simp [e]
theorem range_get {α : Type} (l : List α) : (List.range l.length).filterMap (fun k => l[k]?) = l := by
  rw [range_get', List.take_length]
theorem flt_congr {α β : Type} {f g : α → Option β} : ∀ {l : List α}, (∀ x ∈ l, f x = g x) → l.filterMap f = l.filterMap g
  | [], _ => rfl
  | x :: l, h => by
    rw [List.filterMap_cons, List.filterMap_cons, h x (by simp), flt_congr fun y hy => h y (by simp [hy])]
theorem slicePick_rev (its : List Value) : slicePick its.toArray none none (some (-1)) = its.reverse.toArray := by
  have e1 : sliceBounds none none (some (-1)) its.toArray.size = ((its.length : Int) - 1, -1, -1) := by
    unfold sliceBounds
    simp
  unfold slicePick
  rw [e1]
  congr 1
  have e2 : sliceRange ((its.length : Int) - 1) (-1) (-1) = (List.range its.length).map fun k : Nat => its.length - 1 - k := by
    unfold sliceRange
    have hc : (if (-1 : Int) > 0 then (if (its.length : Int) - 1 < -1 then (-1 - ((its.length : Int) - 1) + -1 - 1) / -1 else 0) else if (its.length : Int) - 1 > -1 then ((its.length : Int) - 1 - -1 - -1 - 1) / - -1 else 0).toNat = its.length := by
      rw [if_neg (by decide)]
      by_cases h : (its.length : Int) - 1 > -1
      · rw [if_pos h, show (- -1 : Int) = 1 by decide, Int.ediv_one]
        omega
      · rw [if_neg h]
        omega
    show ((List.range (if (-1 : Int) > 0 then (if (its.length : Int) - 1 < -1 then (-1 - ((its.length : Int) - 1) + -1 - 1) / -1 else 0) else if (its.length : Int) - 1 > -1 then ((its.length : Int) - 1 - -1 - -1 - 1) / - -1 else 0).toNat).map _) = _
    rw [hc]
    refine List.map_congr_left fun k hk => ?_
    have := List.mem_range.mp hk
    omega
  show List.filterMap _ (sliceRange ((its.length : Int) - 1) (-1) (-1)) = _
  rw [e2, List.filterMap_map]
  have e3 : (List.range its.length).filterMap ((fun x => its.toArray[x]?) ∘ fun k : Nat => its.length - 1 - k) = (List.range its.reverse.length).filterMap fun k => its.reverse[k]? := by
    rw [List.length_reverse]
    refine flt_congr fun k hk => ?_
    have := List.mem_range.mp hk
    rw [List.getElem?_reverse this]
    simp
  rw [e3, range_get]
/-- l[::step], of a step that is -1 -/
def rRevS (K : PySem.W.Frag) : V → Option Int → Hp → VK → Prop := fun x o H2 Q => o = some (-1) ∧ ∃ a xs, x = .ref a ∧ SqL K H2 a xs ∧ ∀ p, H2 p = none → Q (.ref p) (upd H2 p (.lst xs.reverse))
def tRevS (K : PySem.W.Frag) (te : TE) (tst : TO) : TE := fun σ H Q => te σ H fun x H1 => tst σ H1 fun o H2 => rRevS K x o H2 Q
theorem pe_revS {X : Cx} {e st : Expr} {te : TE} {tst : TO} {pos p2 : Pos} (he : PE X e te) (hs : PO X (some st) tst) : PE X (.Subscript e (.Slice none none (some st) p2) pos) (tRevS X.K te tst) := by
  refine ⟨fun pins s σ H Q I h => ?_⟩
  refine Subscript_ (thn (he.run pins s σ H _ I h) fun v s1 ⟨x, H1, I1, r1, q1⟩ => ?_)
  refine wpAny_Slice ?_
  rw [evalPart_none]
  refine wpAny_pure (wpAny_pure (thn (hs.run pins s1 σ H1 _ I1 q1) fun vs s2 ⟨o, H2, I2, ps, q2⟩ => ?_))
  obtain ⟨rfl, a, xs, rfl, hx, q⟩ := q2
  have I4 : Inv X pins σ H2 { s2 with heap := s2.heap.push { cls := .type "slice", data := .fields #[.none, .none, vs] } } := I2.kept (t' := s2.toks) fun b ob q => Heap.get?_push_of_some _ q
  cases r1
  obtain ⟨its, r, ht, hz⟩ := I4.list hx
  have hlen := r.length
  show wpAny (model X.prog X.w) X.A (subscriptTail e (.Slice none none (some st) p2) (.ref a) (.ref s2.heap.objs.size)) (EP X pins σ Q) X.xe { s2 with heap := s2.heap.push { cls := .type "slice", data := .fields #[.none, .none, vs] } }
  refine tail_any (ops := [.ref a, .ref s2.heap.objs.size]) ht.isList.typeIs slot_list_getitem.lookup ?_ (by with_unfolding_all rfl)
  refine wpAny_getItem_list_slice ht.isList (Heap.IsSliceOf.new ..) .none .none ps (by decide) ?_ (by rw [List.size_toArray] <;> omega)
  rw [slicePick_rev]
  refine ⟨.ref (s2.heap.push { cls := .type "slice", data := .fields #[.none, .none, vs] }).objs.size, _, I4.laid (t' := s2.toks) (o := .lst xs.reverse) (fun b ob q => Heap.get?_push_of_some _ q) (Nat.le_refl _) ?_, rfl, q _ (I4.hok.fresh (Nat.le_refl _))⟩
  exact ⟨by rw [List.length_reverse]; exact hz, _, 0, r.reverse, Heap.get?_push_size _ rfl⟩
theorem g_revS {K : PySem.W.Frag} {σ : L2.St} {H : Hp} {Q : VK} {te : TE} {tst : TO} (q : te σ H fun x H1 => tst σ H1 fun o H2 => rRevS K x o H2 Q) : tRevS K te tst σ H Q := q
theorem g_revSb {K : PySem.W.Frag} {H : Hp} {Q : VK} {p : Addr} {xs : List V} (h : SqL K H p xs) (q : ∀ l, Fr H l → Q (.ref l) (upd H l (.lst xs.reverse))) : rRevS K (.ref p) (some (-1)) H Q := ⟨rfl, p, xs, rfl, h, q⟩
/-! YA: data of any shape in the heap. -/
open PySem PySem.Spec PyProof.Rows L2
mutual
/-- v is laid as d; its lists and tuples stand at none of L -/
inductive At (H : Hp) (L : List Addr) : V → PyData → Prop
  | non : At H L .non .none
  | bl (b : Bool) : At H L (.bl b) (.bool b)
  | int (i : Int) : At H L (.int i) (.int i)
  | str (z : Str) : At H L (.str z) (.str z)
  | lst {a : Addr} {xs : List V} {ds : List PyData} (n : a ∉ L) (h : H a = some (.lst xs)) (r : Ats H L xs ds) : At H L (.ref a) (.list ds)
  | tup {a : Addr} {xs : List V} {ds : List PyData} (n : a ∉ L) (h : H a = some (.tup xs)) (r : Ats H L xs ds) : At H L (.ref a) (.tuple ds)
inductive Ats (H : Hp) (L : List Addr) : List V → List PyData → Prop
  | nil : Ats H L [] []
  | cons {v : V} {vs : List V} {d : PyData} {ds : List PyData} (h : At H L v d) (r : Ats H L vs ds) : Ats H L (v :: vs) (d :: ds)
end
theorem Ats.len {H : Hp} {L : List Addr} : ∀ {vs : List V} {ds : List PyData}, Ats H L vs ds → vs.length = ds.length
  | _, _, .nil => rfl
  | _, _, .cons _ r => by rw [List.length_cons, List.length_cons, Ats.len r]
mutual
theorem At.mono {H H' : Hp} {L L' : List Addr} (k : ∀ a o, H a = some o → a ∉ L → H' a = some o) (l : ∀ a ∈ L', a ∈ L) : ∀ {v : V} {d : PyData}, At H L v d → At H' L' v d
  | _, _, .non => .non
  | _, _, .bl b => .bl b
  | _, _, .int i => .int i
  | _, _, .str z => .str z
  | _, _, .lst n h r => .lst (fun z => n (l _ z)) (k _ _ h n) (Ats.mono k l r)
  | _, _, .tup n h r => .tup (fun z => n (l _ z)) (k _ _ h n) (Ats.mono k l r)
theorem Ats.mono {H H' : Hp} {L L' : List Addr} (k : ∀ a o, H a = some o → a ∉ L → H' a = some o) (l : ∀ a ∈ L', a ∈ L) : ∀ {vs : List V} {ds : List PyData}, Ats H L vs ds → Ats H' L' vs ds
  | _, _, .nil => .nil
  | _, _, .cons h r => .cons (At.mono k l h) (Ats.mono k l r)
end
theorem At.kp {H H' : Hp} {L : List Addr} {v : V} {d : PyData} (k : Kp L H H') (h : At H L v d) : At H' L v d := h.mono k fun _ z => z
theorem At.same {H H' : Hp} {L : List Addr} {v : V} {d : PyData} (k : Same H H') (h : At H L v d) : At H' L v d := h.mono (fun a o e _ => k a o e) fun _ z => z
theorem At.nil {H : Hp} {L : List Addr} {v : V} {d : PyData} (h : At H L v d) : At H [] v d := h.mono (fun _ _ e _ => e) fun _ z => by simp at z
theorem at_new' {H : Hp} {L : List Addr} {p : Addr} {o : HO} {v : V} {d : PyData} (hp : Fr H p) (h : At H L v d) : At (upd H p o) L v d := h.same (same_new hp)
mutual
theorem At.dp {K : PySem.W.Frag} {H : Hp} {L : List Addr} : ∀ {v : V} {d : PyData}, At H L v d → Dp K H v d
  | _, _, .non => .non
  | _, _, .bl b => .bl b
  | _, _, .int i => .int i
  | _, _, .str z => .str z
  | _, _, .lst _ h r => .lst (SqL.of h) (Ats.dp r)
  | _, _, .tup _ h r => .tup (SqT.of h) (Ats.dp r)
theorem Ats.dp {K : PySem.W.Frag} {H : Hp} {L : List Addr} : ∀ {vs : List V} {ds : List PyData}, Ats H L vs ds → DpAll K H vs ds
  | _, _, .nil => .nil
  | _, _, .cons h r => .cons (At.dp h) (Ats.dp r)
end
theorem at_tup0 {H : Hp} {a : Addr} {xs : List V} {ds : List PyData} (h : H a = some (.tup xs)) (r : Ats H [] xs ds) : At H [] (.ref a) (.tuple ds) := .tup (by simp) h r
theorem at_lst0 {H : Hp} {a : Addr} {xs : List V} {ds : List PyData} (h : H a = some (.lst xs)) (r : Ats H [] xs ds) : At H [] (.ref a) (.list ds) := .lst (by simp) h r
mutual
/-- data of tuples alone -/
inductive Td (H : Hp) : V → PyData → Prop
  | non : Td H .non .none
  | bl (b : Bool) : Td H (.bl b) (.bool b)
  | int (i : Int) : Td H (.int i) (.int i)
  | str (z : Str) : Td H (.str z) (.str z)
  | tup {a : Addr} {xs : List V} {ds : List PyData} (h : H a = some (.tup xs)) (r : Tds H xs ds) : Td H (.ref a) (.tuple ds)
inductive Tds (H : Hp) : List V → List PyData → Prop
  | nil : Tds H [] []
  | cons {v : V} {vs : List V} {d : PyData} {ds : List PyData} (h : Td H v d) (r : Tds H vs ds) : Tds H (v :: vs) (d :: ds)
end
mutual
theorem Td.tk {H H' : Hp} (k : Tk H H') : ∀ {v : V} {d : PyData}, Td H v d → Td H' v d
  | _, _, .non => .non
  | _, _, .bl b => .bl b
  | _, _, .int i => .int i
  | _, _, .str z => .str z
  | _, _, .tup h r => .tup (k _ _ h) (Tds.tk k r)
theorem Tds.tk {H H' : Hp} (k : Tk H H') : ∀ {vs : List V} {ds : List PyData}, Tds H vs ds → Tds H' vs ds
  | _, _, .nil => .nil
  | _, _, .cons h r => .cons (Td.tk k h) (Tds.tk k r)
end
mutual
theorem Td.at {H : Hp} {L : List Addr} (l : ∀ a xs, H a = some (.tup xs) → a ∉ L) : ∀ {v : V} {d : PyData}, Td H v d → At H L v d
  | _, _, .non => .non
  | _, _, .bl b => .bl b
  | _, _, .int i => .int i
  | _, _, .str z => .str z
  | _, _, .tup h r => .tup (l _ _ h) h (Tds.at l r)
theorem Tds.at {H : Hp} {L : List Addr} (l : ∀ a xs, H a = some (.tup xs) → a ∉ L) : ∀ {vs : List V} {ds : List PyData}, Tds H vs ds → Ats H L vs ds
  | _, _, .nil => .nil
  | _, _, .cons h r => .cons (Td.at l h) (Tds.at l r)
end
theorem Td.at0 {H : Hp} {v : V} {d : PyData} (h : Td H v d) : At H [] v d := h.at fun _ _ _ z => by simp at z
theorem td_new {H : Hp} {p : Addr} {o : HO} {v : V} {d : PyData} (hp : Fr H p) (h : Td H v d) : Td (upd H p o) v d := h.tk (tk_new hp)
theorem td_same {H H' : Hp} {v : V} {d : PyData} (k : Same H H') (h : Td H v d) : Td H' v d := h.tk (Same.tk k)
theorem td_tup {H : Hp} {a : Addr} {xs : List V} {ds : List PyData} (h : H a = some (.tup xs)) (r : Tds H xs ds) : Td H (.ref a) (.tuple ds) := .tup h r
theorem Td.dp {K : PySem.W.Frag} {H : Hp} {v : V} {d : PyData} (h : Td H v d) : Dp K H v d := h.at0.dp
/-! ### the length of what is shown -/
/-- may be shown: by so many signs, so deep -/
structure Sho (k m : Nat) (d : PyData) : Prop where
  sh : d.showable = true
  nd : d.hasDict = false
  dp : d.depth ≤ k
  sz : d.shown.length ≤ m
/-! YK: kinds of rules, their classes; what the rules' defs promise. -/
open PySem PySem.Spec PyProof.Rows L2
/-- the words of rules -/
inductive Wd | price | come | go | least | most | deal | fee
  deriving DecidableEq
def Wd.cls : Wd → Str
  | .price => "Price" | .come => "Come" | .go => "Go" | .least => "Least" | .most => "Most" | .deal => "Deal" | .fee => "Fee"
def Wd.word : Wd → Str
  | .price => "price" | .come => "come" | .go => "go" | .least => "least" | .most => "most" | .deal => "deal" | .fee => "fee"
abbrev aC (K : PySem.W.Frag) (w : Wd) : Addr := He.ga K w.cls
theorem Wd.mem (w : Wd) : w.cls ∈ ruleCls := by cases w <;> decide
def CFR (K : PySem.W.Frag) : Prop := exRules K = true
section
variable {K : PySem.W.Frag} (c : CFR K)
include c
theorem CFR.one (w : Wd) : ((He.Fa.cls w.cls).ok K && ((["first", "last", "worth"] : List Str).all (fun f => (He.Fa.noat w.cls f).ok K) && (tyB K (He.ga K w.cls) && isiB K w.cls "Rule" true))) = true :=
  List.all_eq_true.mp (He.ba c).1 _ w.mem
theorem CFR.cls (w : Wd) : Cls K (aC K w) := He.cls_ok (He.ba (CFR.one c w)).1
theorem CFR.no (w : Wd) {f : Str} (h : f ∈ (["first", "last", "worth"] : List Str)) : NoAttr K (aC K w) f := He.noat_ok (List.all_eq_true.mp (He.ba (He.ba (CFR.one c w)).2).1 f h)
theorem CFR.words (H : Hp) : SqT K H (He.ga K "WORDS") (wordsL.map V.str) := by
  have h := He.tupB_ok (He.ba (He.ba c).2).2 H
  rw [List.map_map] at h
  exact h
end
/-! ### data of rules -/
def isW : PyData → Bool
  | .int _ => true
  | _ => false
def isDay : PyData → Bool
  | .int i => decide (0 ≤ i) && decide (i ≤ 1000000)
  | _ => false
def is2 : PyData → Bool
  | .tuple [a, b] => isDay a && isDay b
  | _ => false
def isStr : PyData → Bool
  | .tuple [.int a, .int b] => isDay (.int a) && (isDay (.int b) && decide (a ≤ b))
  | _ => false
def isCoins : PyData → Bool
  | .int i => decide (0 ≤ i) && decide (i ≤ 1000000000000)
  | _ => false
def isNights : PyData → Bool
  | .int i => decide (1 ≤ i) && decide (i ≤ 14)
  | _ => false
def isNone : PyData → Bool
  | .none => true
  | _ => false
def isBool : PyData → Bool
  | .bool _ => true
  | _ => false
def isDeal : PyData → Bool
  | .none => true
  | .tuple [a, .int f] => isNights a && (match a with | .int m => decide (1 ≤ f) && decide (f < m) | _ => false)
  | _ => false
def fitsD : Wd → PyData → Bool
  | .price, d => isNone d || isCoins d
  | .come, d => isBool d
  | .go, d => isBool d
  | .least, d => isNights d
  | .most, d => isNights d
  | .deal, d => isDeal d
  | .fee, d => isCoins d
structure RuleD where
  w : Wd
  f : Int
  l : Int
  d : PyData
def RuleD.told (r : RuleD) : PyData := .tuple [.str r.w.word, .int r.f, .int r.l, r.d]
def RuleD.good (r : RuleD) : Prop := 0 ≤ r.f ∧ r.f ≤ r.l ∧ r.l ≤ 1000000 ∧ fitsD r.w r.d = true
/-- a rule's object -/
def RuleAt (K : PySem.W.Frag) (H : Hp) (v : V) (r : RuleD) : Prop := ∃ (a dx : Addr) (wv : V), v = .ref a ∧ H a = some (.ins (aC K r.w) dx [("first", .int r.f), ("last", .int r.l), ("worth", wv)]) ∧ Td H wv r.d
/-! ### promises -/
def sp_is_whole (K : PySem.W.Frag) : Sp := Sp1 fun x H Q E => ∃ d, At H [] x d ∧ Q (.bl (isW d)) H
theorem g_is_whole {K : PySem.W.Frag} {H : Hp} {Q : VK} {E : XK} {x : V} {d : PyData} (h : At H [] x d) (q : Q (.bl (isW d)) H) : sp_is_whole K ([x] ++ []) H Q E := ⟨x, rfl, d, h, q⟩
def sp_is_day (K : PySem.W.Frag) : Sp := Sp1 fun x H Q E => ∃ d, At H [] x d ∧ Q (.bl (isDay d)) H
theorem g_is_day {K : PySem.W.Frag} {H : Hp} {Q : VK} {E : XK} {x : V} {d : PyData} (h : At H [] x d) (q : Q (.bl (isDay d)) H) : sp_is_day K ([x] ++ []) H Q E := ⟨x, rfl, d, h, q⟩
def sp_is_two_days (K : PySem.W.Frag) : Sp := Sp1 fun x H Q E => ∃ d, At H [] x d ∧ Q (.bl (is2 d)) H
theorem g_is_two_days {K : PySem.W.Frag} {H : Hp} {Q : VK} {E : XK} {x : V} {d : PyData} (h : At H [] x d) (q : Q (.bl (is2 d)) H) : sp_is_two_days K ([x] ++ []) H Q E := ⟨x, rfl, d, h, q⟩
def sp_is_stretch (K : PySem.W.Frag) : Sp := Sp1 fun x H Q E => ∃ d, At H [] x d ∧ Q (.bl (isStr d)) H
theorem g_is_stretch {K : PySem.W.Frag} {H : Hp} {Q : VK} {E : XK} {x : V} {d : PyData} (h : At H [] x d) (q : Q (.bl (isStr d)) H) : sp_is_stretch K ([x] ++ []) H Q E := ⟨x, rfl, d, h, q⟩
def sp_is_coins (K : PySem.W.Frag) : Sp := Sp1 fun x H Q E => ∃ d, At H [] x d ∧ Q (.bl (isCoins d)) H
theorem g_is_coins {K : PySem.W.Frag} {H : Hp} {Q : VK} {E : XK} {x : V} {d : PyData} (h : At H [] x d) (q : Q (.bl (isCoins d)) H) : sp_is_coins K ([x] ++ []) H Q E := ⟨x, rfl, d, h, q⟩
def sp_is_nights (K : PySem.W.Frag) : Sp := Sp1 fun x H Q E => ∃ d, At H [] x d ∧ Q (.bl (isNights d)) H
theorem g_is_nights {K : PySem.W.Frag} {H : Hp} {Q : VK} {E : XK} {x : V} {d : PyData} (h : At H [] x d) (q : Q (.bl (isNights d)) H) : sp_is_nights K ([x] ++ []) H Q E := ⟨x, rfl, d, h, q⟩
theorem and_t {a b : Bool} {Q : VK} {H : Hp} (h : a = true) (q : Q (.bl (a && b)) H) : Q (.bl b) H := by rwa [h, Bool.true_and] at q
theorem and_f {a b : Bool} {Q : VK} {H : Hp} (h : a = false) (q : Q (.bl (a && b)) H) : Q (.bl false) H := by rwa [h, Bool.false_and] at q
/-! YJ: rules' objects: their fields, their making, their methods. -/
open PySem PySem.Spec PyProof.Rows L2
/-- an object of the class of w with these three fields -/
def InsAt (K : PySem.W.Frag) (H : Hp) (v : V) (w : Wd) (x y z : V) : Prop := ∃ a dx, v = .ref a ∧ H a = some (.ins (aC K w) dx [("first", x), ("last", y), ("worth", z)])
/-- all that is no list stays -/
def Nk (H H' : Hp) : Prop := ∀ a o, H a = some o → (∀ xs, o ≠ .lst xs) → H' a = some o
theorem Nk.trans {H H1 H2 : Hp} (a : Nk H H1) (b : Nk H1 H2) : Nk H H2 := fun c o h n => b c o (a c o h n) n
theorem Same.nk {H H' : Hp} (e : Same H H') : Nk H H' := fun a o h _ => e _ _ h
theorem Nk.tk {H H' : Hp} (k : Nk H H') : Tk H H' := fun a xs h => k a _ h fun ys z => by cases z
theorem nk_new {H : Hp} {p : Addr} {o : HO} (h : Fr H p) : Nk H (upd H p o) := Same.nk (same_new h)
theorem nk_put {H : Hp} {p : Addr} {o : HO} {zs : List V} (h : H p = some (.lst zs)) : Nk H (upd H p o) := fun a u e n => at_ne (fun z => by rw [z, h] at e; cases e; exact n _ rfl) e
theorem nk_kp {H H' : Hp} {t b s : Addr} (T : Tape H t b s) (k : Kp [t, b] H H') : Nk H H' := fun a o e n => k a _ e fun m => by
  obtain ⟨⟨_, h1⟩, _, h2⟩ := tape_lst T
  rcases List.mem_cons.mp m with z | m
  · rw [z, h1] at e; cases e; exact n _ rfl
  · rw [List.mem_singleton.mp m, h2] at e; cases e; exact n _ rfl
section
variable {K : PySem.W.Frag} {H H' : Hp} {v x y z : V} {w : Wd} {r : RuleD}
theorem InsAt.nk (k : Nk H H') (h : InsAt K H v w x y z) : InsAt K H' v w x y z := let ⟨a, dx, e, h⟩ := h; ⟨a, dx, e, k _ _ h fun xs q => by cases q⟩
theorem ins_put {p : Addr} {o : HO} {zs : List V} (hp : H p = some (.lst zs)) (h : InsAt K H v w x y z) : InsAt K (upd H p o) v w x y z := h.nk (nk_put hp)
end
theorem RuleAt.ins {K : PySem.W.Frag} {H : Hp} {v : V} {r : RuleD} (h : RuleAt K H v r) : ∃ wv, InsAt K H v r.w (.int r.f) (.int r.l) wv ∧ Td H wv r.d := let ⟨a, dx, wv, e, h, q⟩ := h; ⟨wv, ⟨a, dx, e, h⟩, q⟩
theorem RuleAt.of {K : PySem.W.Frag} {H : Hp} {v : V} {r : RuleD} {wv : V} (h : InsAt K H v r.w (.int r.f) (.int r.l) wv) (q : Td H wv r.d) : RuleAt K H v r := let ⟨a, dx, e, h⟩ := h; ⟨a, dx, wv, e, h, q⟩
/-! ### readings -/
/-- a method of whichever rule's class -/
def tRule (K : PySem.W.Frag) (m : Str) (sp : Wd → Sp) (ta : TE) (t : TA) : TE := fun σ H Q => ∃ w : Wd, tMeth (aC K w) m (sp w) [] E0 ta t σ H Q
theorem pe_rule {X : Cx} {e : Expr} {m : Str} {sp : Wd → Sp} {ta : TE} {t : TA} (h : ∀ w, PE X e (tMeth (aC X.K w) m (sp w) [] E0 ta t)) : PE X e (tRule X.K m sp ta t) := ⟨fun pins s σ H Q I q => let ⟨w, q⟩ := q; (h w).run pins s σ H Q I q⟩
theorem g_rule {K : PySem.W.Frag} {m : Str} {sp : Wd → Sp} {t : TA} {n : Nat} {σ : L2.St} {H : Hp} {Q : VK} {v x y z : V} {w : Wd} (h : σ[n]? = some (some v)) (i : InsAt K H v w x y z) (no : ([("first", x), ("last", y), ("worth", z)] : List (Str × V)).lookup m = none)
    (q : t σ H fun vs H2 => sp w (v :: (vs ++ [])) H2 Q E0) : tRule K m sp (tVar n) t σ H Q := by
  obtain ⟨a, dx, rfl, e⟩ := i
  exact ⟨w, _, h, a, dx, _, rfl, e, no, q⟩
theorem g_fld {K : PySem.W.Frag} {f : Str} {n : Nat} {σ : L2.St} {H : Hp} {Q : VK} {v x y z u : V} {w : Wd} (c : CFR K) (h : σ[n]? = some (some v)) (i : InsAt K H v w x y z) (m : f ∈ (["first", "last", "worth"] : List Str))
    (l : ([("first", x), ("last", y), ("worth", z)] : List (Str × V)).lookup f = some u) (q : Q u H) : tFld K (tVar n) f σ H Q := by
  obtain ⟨a, dx, rfl, e⟩ := i
  exact ⟨_, h, a, _, dx, _, u, rfl, e, CFR.cls c w, CFR.no c w m, l, q⟩
theorem g_first {K : PySem.W.Frag} {n : Nat} {σ : L2.St} {H : Hp} {Q : VK} {v x y z : V} {w : Wd} (c : CFR K) (h : σ[n]? = some (some v)) (i : InsAt K H v w x y z) (q : Q x H) : tFld K (tVar n) "first" σ H Q := g_fld c h i (by decide) rfl q
theorem g_last {K : PySem.W.Frag} {n : Nat} {σ : L2.St} {H : Hp} {Q : VK} {v x y z : V} {w : Wd} (c : CFR K) (h : σ[n]? = some (some v)) (i : InsAt K H v w x y z) (q : Q y H) : tFld K (tVar n) "last" σ H Q := g_fld c h i (by decide) rfl q
theorem g_worth {K : PySem.W.Frag} {n : Nat} {σ : L2.St} {H : Hp} {Q : VK} {v x y z : V} {w : Wd} (c : CFR K) (h : σ[n]? = some (some v)) (i : InsAt K H v w x y z) (q : Q z H) : tFld K (tVar n) "worth" σ H Q := g_fld c h i (by decide) rfl q
/-! ### isinstance -/
/-! ### promises -/
def sp_Rule_init (K : PySem.W.Frag) : Sp := Sp4 fun v x y z H Q E => CFR K ∧ ∃ (a dx : Addr) (w : Wd), v = .ref a ∧ H a = some (.ins (aC K w) dx []) ∧ Q .non (upd H a (.ins (aC K w) dx [("first", x), ("last", y), ("worth", z)]))
def rMake (C : Addr) (sp : Sp) (dvs : List V) (E : XK) (vs : List V) (H1 : Hp) (Q : VK) : Prop := ∀ x dx, H1 x = none → H1 dx = none → dx ≠ x → sp (.ref x :: (vs ++ dvs)) (upd (upd H1 dx (.own x)) x (.ins C dx [])) (fun v H2 => v = .non ∧ Q (.ref x) H2) E
theorem g_tMake {C : Addr} {sp : Sp} {dvs : List V} {E : XK} {t : TA} {σ : L2.St} {H : Hp} {Q : VK} (h : t σ H fun vs H1 => rMake C sp dvs E vs H1 Q) : tMake C sp dvs E t σ H Q := h
theorem g_mkRule {K : PySem.W.Frag} {E : XK} {H : Hp} {Q : VK} {x y z : V} (w : Wd) (c : CFR K) (q : ∀ v H', Same H H' → InsAt K H' v w x y z → Q v H') : rMake (aC K w) (sp_Rule_init K) [] E [x, y, z] H Q := by
  intro a dx ha hd hne
  have h1 : upd H dx (.own a) a = none := by rw [upd_ne hne.symm]; exact ha
  refine ⟨_, _, _, _, rfl, c, a, dx, w, rfl, upd_same, rfl, q _ _ ?_ ⟨a, dx, rfl, upd_same⟩⟩
  rw [upd_upd]
  exact (same_new hd).trans (same_new h1)
theorem g_mkPrice {K : PySem.W.Frag} {E : XK} {H : Hp} {Q : VK} {x y z : V} (c : CFR K) (q : ∀ v H', Same H H' → InsAt K H' v .price x y z → Q v H') : rMake (He.ga K "Price") (sp_Rule_init K) [] E [x, y, z] H Q := g_mkRule .price c q
theorem g_mkCome {K : PySem.W.Frag} {E : XK} {H : Hp} {Q : VK} {x y z : V} (c : CFR K) (q : ∀ v H', Same H H' → InsAt K H' v .come x y z → Q v H') : rMake (He.ga K "Come") (sp_Rule_init K) [] E [x, y, z] H Q := g_mkRule .come c q
theorem g_mkGo {K : PySem.W.Frag} {E : XK} {H : Hp} {Q : VK} {x y z : V} (c : CFR K) (q : ∀ v H', Same H H' → InsAt K H' v .go x y z → Q v H') : rMake (He.ga K "Go") (sp_Rule_init K) [] E [x, y, z] H Q := g_mkRule .go c q
theorem g_mkLeast {K : PySem.W.Frag} {E : XK} {H : Hp} {Q : VK} {x y z : V} (c : CFR K) (q : ∀ v H', Same H H' → InsAt K H' v .least x y z → Q v H') : rMake (He.ga K "Least") (sp_Rule_init K) [] E [x, y, z] H Q := g_mkRule .least c q
theorem g_mkMost {K : PySem.W.Frag} {E : XK} {H : Hp} {Q : VK} {x y z : V} (c : CFR K) (q : ∀ v H', Same H H' → InsAt K H' v .most x y z → Q v H') : rMake (He.ga K "Most") (sp_Rule_init K) [] E [x, y, z] H Q := g_mkRule .most c q
theorem g_mkDeal {K : PySem.W.Frag} {E : XK} {H : Hp} {Q : VK} {x y z : V} (c : CFR K) (q : ∀ v H', Same H H' → InsAt K H' v .deal x y z → Q v H') : rMake (He.ga K "Deal") (sp_Rule_init K) [] E [x, y, z] H Q := g_mkRule .deal c q
theorem g_mkFee {K : PySem.W.Frag} {E : XK} {H : Hp} {Q : VK} {x y z : V} (c : CFR K) (q : ∀ v H', Same H H' → InsAt K H' v .fee x y z → Q v H') : rMake (He.ga K "Fee") (sp_Rule_init K) [] E [x, y, z] H Q := g_mkRule .fee c q
def sp_word (K : PySem.W.Frag) (w : Wd) : Sp := Sp1 fun x H Q E => Q (.str w.word) H
theorem g_word {K : PySem.W.Frag} {w : Wd} {v : V} {H : Hp} {Q : VK} {E : XK} (q : Q (.str w.word) H) : sp_word K w (v :: ([] ++ [])) H Q E := ⟨v, rfl, q⟩
abbrev sp_Price_word (K : PySem.W.Frag) : Sp := sp_word K .price
abbrev sp_Come_word (K : PySem.W.Frag) : Sp := sp_word K .come
abbrev sp_Go_word (K : PySem.W.Frag) : Sp := sp_word K .go
abbrev sp_Least_word (K : PySem.W.Frag) : Sp := sp_word K .least
abbrev sp_Most_word (K : PySem.W.Frag) : Sp := sp_word K .most
abbrev sp_Deal_word (K : PySem.W.Frag) : Sp := sp_word K .deal
abbrev sp_Fee_word (K : PySem.W.Frag) : Sp := sp_word K .fee
def sp_fits (K : PySem.W.Frag) (w : Wd) : Sp := Sp1 fun v H Q E => CFR K ∧ ∃ x y z d, InsAt K H v w x y z ∧ At H [] z d ∧ Q (.bl (fitsD w d)) H
theorem g_fits {K : PySem.W.Frag} {w : Wd} {v x y z : V} {d : PyData} {H : Hp} {Q : VK} {E : XK} (c : CFR K) (i : InsAt K H v w x y z) (h : At H [] z d) (q : Q (.bl (fitsD w d)) H) : sp_fits K w (v :: ([] ++ [])) H Q E := ⟨v, rfl, c, x, y, z, d, i, h, q⟩
abbrev sp_Price_fits (K : PySem.W.Frag) : Sp := sp_fits K .price
abbrev sp_Come_fits (K : PySem.W.Frag) : Sp := sp_fits K .come
abbrev sp_Go_fits (K : PySem.W.Frag) : Sp := sp_fits K .go
abbrev sp_Least_fits (K : PySem.W.Frag) : Sp := sp_fits K .least
abbrev sp_Most_fits (K : PySem.W.Frag) : Sp := sp_fits K .most
abbrev sp_Deal_fits (K : PySem.W.Frag) : Sp := sp_fits K .deal
abbrev sp_Fee_fits (K : PySem.W.Frag) : Sp := sp_fits K .fee
/-- the rule's tuple: a new one -/
def sp_Rule_told (K : PySem.W.Frag) : Sp := Sp1 fun v H Q E => CFR K ∧ ∃ w x y z, InsAt K H v w x y z ∧ ∀ p H', Same H H' → Fr H p → H' p = some (.tup [.str w.word, x, y, z]) → Q (.ref p) H'
abbrev sp_told (K : PySem.W.Frag) (_ : Wd) : Sp := sp_Rule_told K
theorem g_told {K : PySem.W.Frag} {w u : Wd} {v x y z : V} {H : Hp} {Q : VK} {E : XK} (c : CFR K) (i : InsAt K H v w x y z) (q : ∀ p H', Same H H' → Fr H p → H' p = some (.tup [.str w.word, x, y, z]) → Q (.ref p) H') : sp_told K u (v :: ([] ++ [])) H Q E := ⟨v, rfl, c, w, x, y, z, i, q⟩
def sp_Rule_tells (K : PySem.W.Frag) : Sp := Sp2 fun v u H Q E => CFR K ∧ ∃ w f l z d, InsAt K H v w (.int f) (.int l) z ∧ u = .int d ∧ Q (.bl (decide (f ≤ d) && decide (d ≤ l))) H
abbrev sp_tells (K : PySem.W.Frag) (_ : Wd) : Sp := sp_Rule_tells K
theorem g_tells {K : PySem.W.Frag} {w u : Wd} {v z : V} {f l d : Int} {H : Hp} {Q : VK} {E : XK} (c : CFR K) (i : InsAt K H v w (.int f) (.int l) z) (q : Q (.bl (decide (f ≤ d) && decide (d ≤ l))) H) : sp_tells K u (v :: ([.int d] ++ [])) H Q E := ⟨v, _, rfl, c, w, f, l, z, d, i, rfl, q⟩
def sp_made (K : PySem.W.Frag) : Sp := Sp4 fun u x y z H Q E => CFR K ∧ ∃ w : Wd, u = .str w.word ∧ ∀ v H', Same H H' → InsAt K H' v w x y z → Q v H'
theorem g_made {K : PySem.W.Frag} {w : Wd} {x y z : V} {H : Hp} {Q : VK} {E : XK} (c : CFR K) (q : ∀ v H', Same H H' → InsAt K H' v w x y z → Q v H') : sp_made K ([.str w.word, x, y, z] ++ []) H Q E := ⟨_, _, _, _, rfl, c, w, rfl, q⟩
def wordOf (z : Str) : Option Wd := [Wd.price, .come, .go, .least, .most, .deal, .fee].find? fun w => decide (w.word = z)
/-- the rule that data tell -/
def asRule : PyData → Option RuleD
  | .tuple [.str z, .int f, .int l, d] => match wordOf z with
    | some w => if (isStr (.tuple [.int f, .int l]) && fitsD w d) = true then some ⟨w, f, l, d⟩ else none
    | none => none
  | _ => none
def sp_rule_of (K : PySem.W.Frag) : Sp := Sp1 fun x H Q E => CFR K ∧ ∃ d, At H [] x d ∧ (asRule d = none → ∀ H', Same H H' → Q .non H') ∧ ∀ r, asRule d = some r → ∀ v H', Same H H' → RuleAt K H' v r → Q v H'
theorem g_rule_of {K : PySem.W.Frag} {x : V} {d : PyData} {H : Hp} {Q : VK} {E : XK} (c : CFR K) (h : At H [] x d) (q1 : asRule d = none → ∀ H', Same H H' → Q .non H') (q2 : ∀ r, asRule d = some r → ∀ v H', Same H H' → RuleAt K H' v r → Q v H') : sp_rule_of K ([x] ++ []) H Q E := ⟨x, rfl, c, d, h, q1, q2⟩
theorem wordOf_word (w : Wd) : wordOf w.word = some w := by cases w <;> decide
theorem asRule_told {r : RuleD} (h : r.good) : asRule r.told = some r := by
  obtain ⟨h1, h2, h3, h4⟩ := h
  unfold asRule RuleD.told
  simp only [wordOf_word]
  rw [if_pos]
  rw [h4, Bool.and_true]
  show (isDay (.int r.f) && (isDay (.int r.l) && decide (r.f ≤ r.l))) = true
  unfold isDay
  simp
  omega
/-- a rule's tuple -/
def RuT (H : Hp) (v : V) (r : RuleD) : Prop := ∃ p wv, v = .ref p ∧ H p = some (.tup [.str r.w.word, .int r.f, .int r.l, wv]) ∧ Td H wv r.d
theorem RuT.tk {H H' : Hp} {v : V} {r : RuleD} (k : Tk H H') (h : RuT H v r) : RuT H' v r := let ⟨p, wv, e, h, q⟩ := h; ⟨p, wv, e, k _ _ h, q.tk k⟩
theorem RuT.td {H : Hp} {v : V} {r : RuleD} (h : RuT H v r) : Td H v r.told := by
  obtain ⟨p, wv, rfl, h, q⟩ := h
  exact .tup h (.cons (.str _) (.cons (.int _) (.cons (.int _) (.cons q .nil))))
/-! YI: the rules' defs keep what they promise. -/
open PySem PySem.Spec PyProof.Rows L2
theorem isDeal_no {ds : List PyData} (h : ds.length ≠ 2) : isDeal (.tuple ds) = false := by
  match ds, h with
  | [], _ => rfl
  | [_], _ => rfl
  | [_, _], h => exact absurd rfl h
  | _ :: b :: _ :: _, _ => cases b <;> rfl
theorem isDeal_n {a b : PyData} (h : isNights a = false) : isDeal (.tuple [a, b]) = false := by
  cases b <;> first | rfl | (show (isNights a && _) = false; rw [h]; rfl)
theorem isDeal_w {a b : PyData} (h : isW b = false) : isDeal (.tuple [a, b]) = false := by
  cases b <;> first | rfl | cases h
theorem isNights_int {d : PyData} (h : isNights d = true) : ∃ i, d = .int i := by
  cases d with
  | int i => exact ⟨i, rfl⟩
  | _ => cases h
theorem isW_int {d : PyData} (h : isW d = true) : ∃ i, d = .int i := by
  cases d with
  | int i => exact ⟨i, rfl⟩
  | _ => cases h
theorem ats2' {H : Hp} {L : List Addr} {xs : List V} {ds : List PyData} (r : Ats H L xs ds) (h : xs.length = 2) : ∃ x y a b, xs = [x, y] ∧ ds = [a, b] ∧ At H L x a ∧ At H L y b := by
  match xs, ds, r, h with
  | [x, y], [a, b], .cons h1 (.cons h2 .nil), _ => exact ⟨x, y, a, b, rfl, rfl, h1, h2⟩
theorem ats4 {H : Hp} {L : List Addr} {xs : List V} {ds : List PyData} (r : Ats H L xs ds) (h : xs.length = 4) : ∃ x y z u a b c d, xs = [x, y, z, u] ∧ ds = [a, b, c, d] ∧ At H L x a ∧ At H L y b ∧ At H L z c ∧ At H L u d := by
  match xs, ds, r, h with
  | [x, y, z, u], [a, b, c, d], .cons h1 (.cons h2 (.cons h3 (.cons h4 .nil))), _ => exact ⟨x, y, z, u, a, b, c, d, rfl, rfl, h1, h2, h3, h4⟩
theorem asRule_no {ds : List PyData} (h : ds.length ≠ 4) : asRule (.tuple ds) = none := by
  unfold asRule
  split
  · rename_i e
    injection e with e
    subst e
    exact absurd rfl h
  · rfl
theorem asRule_w {z : Str} {b c d : PyData} (h : wordOf z = none) : asRule (.tuple [.str z, b, c, d]) = none := by
  unfold asRule
  split
  · rename_i z' f l d' e
    injection e with e
    injection e with e1 e
    injection e1 with e1
    subst e1
    rw [h]
  · rfl
theorem asRule_s {z : Str} {b c d : PyData} (h : isStr (.tuple [b, c]) = false) : asRule (.tuple [.str z, b, c, d]) = none := by
  unfold asRule
  split
  · rename_i z' f l d' e
    injection e with e
    injection e with e1 e
    injection e with e2 e
    injection e with e3 e
    subst e2 e3
    split
    · rw [h, Bool.false_and, if_neg Bool.false_ne_true]
    · rfl
  · rfl
theorem isStr_int {b c : PyData} (h : isStr (.tuple [b, c]) = true) : ∃ f l, b = .int f ∧ c = .int l := by
  unfold isStr at h
  split at h
  · rename_i f l e
    injection e with e
    injection e with e1 e
    injection e with e2 e
    exact ⟨f, l, e1, e2⟩
  · cases h
theorem any_find {α : Type} (p : α → Bool) : ∀ l : List α, l.any p = (l.find? p).isSome
  | [] => rfl
  | a :: l => by
    rw [List.any_cons, List.find?_cons, any_find p l]
    cases p a <;> simp
theorem inV_words (z : Str) : inV (.str z) (wordsL.map V.str) = (wordOf z).isSome := by
  have e : wordsL = [Wd.price, .come, .go, .least, .most, .deal, .fee].map Wd.word := rfl
  unfold inV wordOf
  rw [e, List.map_map, List.any_map, ← any_find]
  congr 1
theorem wordOf_some {z : Str} {w : Wd} (h : wordOf z = some w) : z = w.word := by
  have := List.find?_some h
  exact (of_decide_eq_true this).symm
theorem td_of_fits {H : Hp} {v : V} {w : Wd} {d : PyData} (h : At H [] v d) (k : fitsD w d = true) : Td H v d := by
  cases h with
  | non => exact .non
  | bl b => exact .bl b
  | int i => exact .int i
  | str z => exact .str z
  | lst n h r => cases w <;> cases k
  | @tup a xs ds n h r =>
    have hd : isDeal (.tuple ds) = true := by cases w <;> first | exact k | cases k
    by_cases hl : ds.length = 2
    · obtain ⟨x, y, p, q, rfl, rfl, hx, hy⟩ := ats2' r (by rw [Ats.len r]; exact hl)
      have hp : isNights p = true := by
        cases e : isNights p with
        | true => rfl
        | false => rw [isDeal_n e] at hd; cases hd
      have hq : isW q = true := by
        cases e : isW q with
        | true => rfl
        | false => rw [isDeal_w e] at hd; cases hd
      obtain ⟨i, rfl⟩ := isNights_int hp
      obtain ⟨j, rfl⟩ := isW_int hq
      cases hx
      cases hy
      exact .tup h (.cons (.int i) (.cons (.int j) .nil))
    · rw [isDeal_no hl] at hd; cases hd
def t_Rule_init (K : PySem.W.Frag) : TS :=
  (tSeq (sFld K (tVar 0) (tVar 1) "first")
  (tSeq (sFld K (tVar 0) (tVar 2) "last")
  (sFld K (tVar 0) (tVar 3) "worth")))
theorem pure_Rule_init {K : PySem.W.Frag} {v x y z : V} {H : Hp} {Q : VK} {E : XK} (h : sp_Rule_init K [v, x, y, z] H Q E) : t_Rule_init K { nx := fun _ H' => Q .non H', rt := Q } [some v, some x, some y, some z] H := by
  obtain ⟨v, x, y, z, e, c, a, dx, w, rfl, h, q⟩ := h
  cases e
  have n1 := CFR.no c w (f := "first") (by decide)
  have n2 := CFR.no c w (f := "last") (by decide)
  have n3 := CFR.no c w (f := "worth") (by decide)
  refine ⟨x, rfl, _, rfl, a, _, dx, _, rfl, h, CFR.cls c w, n1, (show (0 : Nat) < 1000 by decide), y, rfl, _, rfl, a, _, dx, _, rfl, upd_same, CFR.cls c w, n2, (show (1 : Nat) < 1000 by decide), z, rfl, _, rfl, a, _, dx, _, rfl, upd_same, CFR.cls c w, n3, (show (2 : Nat) < 1000 by decide), ?_⟩
  rw [upd_upd, upd_upd]
  exact q
def t_Rule_told (K : PySem.W.Frag) : TS :=
  (tRet (tTup (tCons (tRule K "word" (sp_word K) (tVar 0) tNil) (tCons (tFld K (tVar 0) "first") (tCons (tFld K (tVar 0) "last") (tCons (tFld K (tVar 0) "worth") tNil))))))
theorem pure_Rule_told {K : PySem.W.Frag} {v : V} {H : Hp} {Q : VK} {E : XK} (h : sp_Rule_told K [v] H Q E) : t_Rule_told K { nx := fun _ H' => Q .non H', rt := Q } [some v] H := by
  obtain ⟨v, e, c, w, x, y, z, i, q⟩ := h
  cases e
  unfold t_Rule_told
  walk_at "ss"
  rename_i p hp
  exact q p _ (same_new hp) hp upd_same
def t_Rule_tells (K : PySem.W.Frag) : TS :=
  (tRet (tChain rLe rLe (tFld K (tVar 0) "first") (tVar 1) (tFld K (tVar 0) "last")))
theorem pure_Rule_tells {K : PySem.W.Frag} {v u : V} {H : Hp} {Q : VK} {E : XK} (h : sp_Rule_tells K [v, u] H Q E) : t_Rule_tells K { nx := fun _ H' => Q .non H', rt := Q } [some v, some u] H := by
  obtain ⟨v, u, e, c, w, f, l, z, d, i, rfl, q⟩ := h
  cases e
  unfold t_Rule_tells
  walk_at "ss"
  refine ite_b (fun h1 => ?_) fun h1 => ?_
  · walk_at "ss"
    exact and_t h1 q
  · exact and_f h1 q
def t_Price_word (K : PySem.W.Frag) : TS :=
  (tRet (tC (.str "price")))
theorem pure_Price_word {K : PySem.W.Frag} {v : V} {H : Hp} {Q : VK} {E : XK} (h : sp_Price_word K [v] H Q E) : t_Price_word K { nx := fun _ H' => Q .non H', rt := Q } [some v] H := by
  obtain ⟨v, e, q⟩ := h
  cases e
  exact q
def t_Come_word (K : PySem.W.Frag) : TS :=
  (tRet (tC (.str "come")))
theorem pure_Come_word {K : PySem.W.Frag} {v : V} {H : Hp} {Q : VK} {E : XK} (h : sp_Come_word K [v] H Q E) : t_Come_word K { nx := fun _ H' => Q .non H', rt := Q } [some v] H := by
  obtain ⟨v, e, q⟩ := h
  cases e
  exact q
def t_Go_word (K : PySem.W.Frag) : TS :=
  (tRet (tC (.str "go")))
theorem pure_Go_word {K : PySem.W.Frag} {v : V} {H : Hp} {Q : VK} {E : XK} (h : sp_Go_word K [v] H Q E) : t_Go_word K { nx := fun _ H' => Q .non H', rt := Q } [some v] H := by
  obtain ⟨v, e, q⟩ := h
  cases e
  exact q
def t_Least_word (K : PySem.W.Frag) : TS :=
  (tRet (tC (.str "least")))
theorem pure_Least_word {K : PySem.W.Frag} {v : V} {H : Hp} {Q : VK} {E : XK} (h : sp_Least_word K [v] H Q E) : t_Least_word K { nx := fun _ H' => Q .non H', rt := Q } [some v] H := by
  obtain ⟨v, e, q⟩ := h
  cases e
  exact q
def t_Most_word (K : PySem.W.Frag) : TS :=
  (tRet (tC (.str "most")))
theorem pure_Most_word {K : PySem.W.Frag} {v : V} {H : Hp} {Q : VK} {E : XK} (h : sp_Most_word K [v] H Q E) : t_Most_word K { nx := fun _ H' => Q .non H', rt := Q } [some v] H := by
  obtain ⟨v, e, q⟩ := h
  cases e
  exact q
def t_Deal_word (K : PySem.W.Frag) : TS :=
  (tRet (tC (.str "deal")))
theorem pure_Deal_word {K : PySem.W.Frag} {v : V} {H : Hp} {Q : VK} {E : XK} (h : sp_Deal_word K [v] H Q E) : t_Deal_word K { nx := fun _ H' => Q .non H', rt := Q } [some v] H := by
  obtain ⟨v, e, q⟩ := h
  cases e
  exact q
def t_Fee_word (K : PySem.W.Frag) : TS :=
  (tRet (tC (.str "fee")))
theorem pure_Fee_word {K : PySem.W.Frag} {v : V} {H : Hp} {Q : VK} {E : XK} (h : sp_Fee_word K [v] H Q E) : t_Fee_word K { nx := fun _ H' => Q .non H', rt := Q } [some v] H := by
  obtain ⟨v, e, q⟩ := h
  cases e
  exact q
def t_Price_fits (K : PySem.W.Frag) : TS :=
  (tRet (tOrV (tOp rIsN (tFld K (tVar 0) "worth") (tC .non)) (tCall (sp_is_coins K) [] E0 (tCons (tFld K (tVar 0) "worth") tNil))))
theorem pure_Price_fits {K : PySem.W.Frag} {v : V} {H : Hp} {Q : VK} {E : XK} (h : sp_Price_fits K [v] H Q E) : t_Price_fits K { nx := fun _ H' => Q .non H', rt := Q } [some v] H := by
  obtain ⟨v, e, c, x, y, z, d, i, h, q⟩ := h
  cases e
  unfold t_Price_fits
  walk_at "ss"
  cases h with
  | non =>
    refine ite_t rfl ?_
    exact q
  | _ =>
    refine ite_f rfl ?_
    walk_at "ss"
    exact q
def t_Come_fits (K : PySem.W.Frag) : TS :=
  (tRet (tCB (rIsi K) (tCons (tFld K (tVar 0) "worth") (tCons (tC (.ty "bool")) tNil))))
theorem pure_Come_fits {K : PySem.W.Frag} {v : V} {H : Hp} {Q : VK} {E : XK} (h : sp_Come_fits K [v] H Q E) : t_Come_fits K { nx := fun _ H' => Q .non H', rt := Q } [some v] H := by
  obtain ⟨v, e, c, x, y, z, d, i, h, q⟩ := h
  cases e
  unfold t_Come_fits
  walk_at "ss"
  cases h <;> (walk_at "ss"; exact q)
def t_Go_fits (K : PySem.W.Frag) : TS :=
  (tRet (tCB (rIsi K) (tCons (tFld K (tVar 0) "worth") (tCons (tC (.ty "bool")) tNil))))
theorem pure_Go_fits {K : PySem.W.Frag} {v : V} {H : Hp} {Q : VK} {E : XK} (h : sp_Go_fits K [v] H Q E) : t_Go_fits K { nx := fun _ H' => Q .non H', rt := Q } [some v] H := by
  obtain ⟨v, e, c, x, y, z, d, i, h, q⟩ := h
  cases e
  unfold t_Go_fits
  walk_at "ss"
  cases h <;> (walk_at "ss"; exact q)
def t_Least_fits (K : PySem.W.Frag) : TS :=
  (tRet (tCall (sp_is_nights K) [] E0 (tCons (tFld K (tVar 0) "worth") tNil)))
theorem pure_Least_fits {K : PySem.W.Frag} {v : V} {H : Hp} {Q : VK} {E : XK} (h : sp_Least_fits K [v] H Q E) : t_Least_fits K { nx := fun _ H' => Q .non H', rt := Q } [some v] H := by
  obtain ⟨v, e, c, x, y, z, d, i, h, q⟩ := h
  cases e
  unfold t_Least_fits
  walk_at "ss"
  exact q
def t_Most_fits (K : PySem.W.Frag) : TS :=
  (tRet (tCall (sp_is_nights K) [] E0 (tCons (tFld K (tVar 0) "worth") tNil)))
theorem pure_Most_fits {K : PySem.W.Frag} {v : V} {H : Hp} {Q : VK} {E : XK} (h : sp_Most_fits K [v] H Q E) : t_Most_fits K { nx := fun _ H' => Q .non H', rt := Q } [some v] H := by
  obtain ⟨v, e, c, x, y, z, d, i, h, q⟩ := h
  cases e
  unfold t_Most_fits
  walk_at "ss"
  exact q
def t_Deal_fits (K : PySem.W.Frag) : TS :=
  (tSeq (tIfS (tTest (tOp rIsN (tFld K (tVar 0) "worth") (tC .non)))
  (tRet (tC (.bl true)))
  tNext)
  (tSeq (tIfS (tOr (tNot (tB (tCB (rIsi K) (tCons (tFld K (tVar 0) "worth") (tCons (tC (.ty "tuple")) tNil))))) (tTest (tOp rNe (tCB (rLenA K) (tCons (tFld K (tVar 0) "worth") tNil)) (tC (.int 2)))))
  (tRet (tC (.bl false)))
  tNext)
  (tSeq (tAsg (tFld K (tVar 0) "worth") (gTup K 2 (gCons (gName 1) (gCons (gName 2) gNil))))
  (tRet (tAndV (tCall (sp_is_nights K) [] E0 (tCons (tVar 1) tNil)) (tAndV (tCall (sp_is_whole K) [] E0 (tCons (tVar 2) tNil)) (tChain rLe rLt (tC (.int 1)) (tVar 2) (tVar 1))))))))
theorem pure_Deal_fits {K : PySem.W.Frag} {v : V} {H : Hp} {Q : VK} {E : XK} (h : sp_Deal_fits K [v] H Q E) : t_Deal_fits K { nx := fun _ H' => Q .non H', rt := Q } [some v, none, none] H := by
  obtain ⟨v, e, c, x, y, z, d, i, h, q⟩ := h
  cases e
  unfold t_Deal_fits
  walk_at "ss"
  cases h with
  | non =>
    refine ite_t rfl ?_
    exact q
  | tup n h r =>
    refine ite_f rfl ?_
    walk_at "ss"
    refine g_lenA (.inr ⟨_, SqT.of h, rfl⟩) ?_
    walk_at "ss"
    refine ite_nd (fun h1 => ?_) fun h1 => ?_
    · have hl := V.int.inj h1
      obtain ⟨x', y', a, b, rfl, rfl, hx, hy⟩ := ats2' r (by omega)
      walk_at "ss"
      refine ite_b (fun h2 => ?_) fun h2 => ?_
      · walk_at "ss"
        refine ite_b (fun h3 => ?_) fun h3 => ?_
        · obtain ⟨m, rfl⟩ := isNights_int h2
          obtain ⟨f, rfl⟩ := isW_int h3
          cases hx
          cases hy
          have q' : Q (.bl (isNights (.int m) && (decide (1 ≤ f) && decide (f < m)))) H := q
          rw [h2, Bool.true_and] at q'
          walk_at "ss"
          refine ite_b (fun h4 => ?_) fun h4 => ?_
          · walk_at "ss"
            exact and_t h4 q'
          · exact and_f h4 q'
        · have e : fitsD .deal (.tuple [a, b]) = false := isDeal_w h3
          rw [e] at q
          exact q
      · have e : fitsD .deal (.tuple [a, b]) = false := isDeal_n h2
        rw [e] at q
        exact q
    · have e : fitsD .deal (.tuple _) = false := isDeal_no (ds := _) fun z => h1 (by rw [Ats.len r, z]; rfl)
      rw [e] at q
      walk_at "ss"
      exact q
  | _ =>
    refine ite_f rfl ?_
    walk_at "ss"
    exact q
def t_Fee_fits (K : PySem.W.Frag) : TS :=
  (tRet (tCall (sp_is_coins K) [] E0 (tCons (tFld K (tVar 0) "worth") tNil)))
theorem pure_Fee_fits {K : PySem.W.Frag} {v : V} {H : Hp} {Q : VK} {E : XK} (h : sp_Fee_fits K [v] H Q E) : t_Fee_fits K { nx := fun _ H' => Q .non H', rt := Q } [some v] H := by
  obtain ⟨v, e, c, x, y, z, d, i, h, q⟩ := h
  cases e
  unfold t_Fee_fits
  walk_at "ss"
  exact q
def t_made (K : PySem.W.Frag) : TS :=
  (tSeq (tIfS (tTest (tOp rEq (tVar 0) (tC (.str "price"))))
  (tRet (tMake (He.ga K "Price") (sp_Rule_init K) [] E0 (tCons (tVar 1) (tCons (tVar 2) (tCons (tVar 3) tNil)))))
  tNext)
  (tSeq (tIfS (tTest (tOp rEq (tVar 0) (tC (.str "come"))))
  (tRet (tMake (He.ga K "Come") (sp_Rule_init K) [] E0 (tCons (tVar 1) (tCons (tVar 2) (tCons (tVar 3) tNil)))))
  tNext)
  (tSeq (tIfS (tTest (tOp rEq (tVar 0) (tC (.str "go"))))
  (tRet (tMake (He.ga K "Go") (sp_Rule_init K) [] E0 (tCons (tVar 1) (tCons (tVar 2) (tCons (tVar 3) tNil)))))
  tNext)
  (tSeq (tIfS (tTest (tOp rEq (tVar 0) (tC (.str "least"))))
  (tRet (tMake (He.ga K "Least") (sp_Rule_init K) [] E0 (tCons (tVar 1) (tCons (tVar 2) (tCons (tVar 3) tNil)))))
  tNext)
  (tSeq (tIfS (tTest (tOp rEq (tVar 0) (tC (.str "most"))))
  (tRet (tMake (He.ga K "Most") (sp_Rule_init K) [] E0 (tCons (tVar 1) (tCons (tVar 2) (tCons (tVar 3) tNil)))))
  tNext)
  (tSeq (tIfS (tTest (tOp rEq (tVar 0) (tC (.str "deal"))))
  (tRet (tMake (He.ga K "Deal") (sp_Rule_init K) [] E0 (tCons (tVar 1) (tCons (tVar 2) (tCons (tVar 3) tNil)))))
  tNext)
  (tRet (tMake (He.ga K "Fee") (sp_Rule_init K) [] E0 (tCons (tVar 1) (tCons (tVar 2) (tCons (tVar 3) tNil)))))))))))
theorem pure_made {K : PySem.W.Frag} {u x y z : V} {H : Hp} {Q : VK} {E : XK} (h : sp_made K [u, x, y, z] H Q E) : t_made K { nx := fun _ H' => Q .non H', rt := Q } [some u, some x, some y, some z] H := by
  obtain ⟨u, x, y, z, e, c, w, rfl, q⟩ := h
  cases e
  unfold t_made
  cases w <;> (walk_at "ss"; repeat (first | (refine ite_dt rfl ?_; walk_at "ss") | (refine ite_df (by decide) ?_; walk_at "ss"))) <;> exact q _ _ (by assumption) (by assumption)
def t_rule_of (K : PySem.W.Frag) : TS :=
  (tSeq (tIfS (tOr (tNot (tB (tCB (rIsi K) (tCons (tVar 0) (tCons (tC (.ty "tuple")) tNil))))) (tOr (tTest (tOp rNe (tCB (rLen K) (tCons (tVar 0) tNil)) (tC (.int 4)))) (tOr (tNot (tB (tCB (rIsi K) (tCons (tOp (rIxT K) (tVar 0) (tC (.int 0))) (tCons (tC (.ty "str")) tNil))))) (tTest (tOp (rIn K true) (tOp (rIxT K) (tVar 0) (tC (.int 0))) (tC (.ref (He.ga K "WORDS"))))))))
  (tRet (tC .non))
  tNext)
  (tSeq (tIfS (tNot (tB (tCall (sp_is_stretch K) [] E0 (tCons (tTup (tCons (tOp (rIxT K) (tVar 0) (tC (.int 1))) (tCons (tOp (rIxT K) (tVar 0) (tC (.int 2))) tNil))) tNil))))
  (tRet (tC .non))
  tNext)
  (tSeq (tAsg (tCall (sp_made K) [] E0 (tCons (tOp (rIxT K) (tVar 0) (tC (.int 0))) (tCons (tOp (rIxT K) (tVar 0) (tC (.int 1))) (tCons (tOp (rIxT K) (tVar 0) (tC (.int 2))) (tCons (tOp (rIxT K) (tVar 0) (tC (.int 3))) tNil))))) (gName 1))
  (tSeq (tIfS (tNot (tB (tRule K "fits" (sp_fits K) (tVar 1) tNil)))
  (tRet (tC .non))
  tNext)
  (tRet (tVar 1))))))
theorem pure_rule_of {K : PySem.W.Frag} {x : V} {H : Hp} {Q : VK} {E : XK} (h : sp_rule_of K [x] H Q E) : t_rule_of K { nx := fun _ H' => Q .non H', rt := Q } [some x, none] H := by
  obtain ⟨x, e, c, d, h, q1, q2⟩ := h
  cases e
  unfold t_rule_of
  cases h with
  | tup n h r =>
    walk_at "ss"
    refine ite_nd (fun h1 => ?_) fun h1 => ?_
    · have hl := V.int.inj h1
      obtain ⟨x0, x1, x2, x3, a0, a1, a2, a3, rfl, rfl, k0, k1, k2, k3⟩ := ats4 r (by omega)
      cases k0 with
      | str z =>
        walk_at "ss"
        refine ⟨_, _, rfl, .inr (CFR.words c _), rfl, by decide, ?_⟩
        rw [inV_words]
        walk_at "ss"
        cases ew : wordOf z with
        | none =>
          refine ite_t rfl ?_
          walk_at "ss"
          exact q1 (asRule_w ew) _ (Same.refl _)
        | some w =>
          obtain rfl := wordOf_some ew
          refine ite_f rfl ?_
          walk_at "ss"
          rename_i p hp
          refine ite_b (fun h4 => ?_) fun h4 => ?_
          · walk_at "ss"
            exact q1 (asRule_s (by simpa using h4)) _ (same_new hp)
          · have h5 : isStr (.tuple [a1, a2]) = true := by simpa using h4
            obtain ⟨f, l, rfl, rfl⟩ := isStr_int h5
            cases k1
            cases k2
            walk_at "ss"
            refine g_made c fun v H' hs hi => ?_
            walk_at "ss"
            have eR : asRule (.tuple [.str w.word, .int f, .int l, a3]) = if (isStr (.tuple [.int f, .int l]) && fitsD w a3) = true then some ⟨w, f, l, a3⟩ else none := by
              unfold asRule
              simp only [ew]
            rw [h5, Bool.true_and] at eR
            refine ite_b (fun h6 => ?_) fun h6 => ?_
            · walk_at "ss"
              refine q1 ?_ _ (by walk_at "sm")
              rw [eR, if_neg (by simpa using h6)]
            · walk_at "ss"
              have h7 : fitsD w a3 = true := by simpa using h6
              refine q2 ⟨w, f, l, a3⟩ ?_ v _ (by walk_at "sm") (RuleAt.of hi (td_of_fits (by walk_at "ad") h7))
              rw [eR, if_pos h7]
      | _ =>
        walk_at "ss"
        exact q1 rfl _ (Same.refl _)
    · walk_at "ss"
      exact q1 (asRule_no fun z => h1 (by rw [Ats.len r, z]; rfl)) _ (Same.refl _)
  | _ =>
    walk_at "ss"
    exact q1 rfl _ (Same.refl _)
/-! YQ: books in the heap. -/
open PySem PySem.Spec PyProof.Rows L2
/-- what is told of the class of books -/
def CFB (K : PySem.W.Frag) : Prop := exBook K = true
theorem CFB.cls {K : PySem.W.Frag} (c : CFB K) : Cls K (He.ga K "Book") := He.cls_ok (He.ba c).1
theorem CFB.no {K : PySem.W.Frag} (c : CFB K) {f : Str} (h : f ∈ (["kept", "newest"] : List Str)) : NoAttr K (He.ga K "Book") f := He.noat_ok (List.all_eq_true.mp (He.ba (He.ba c).2).1 f h)
/-- objects and tuples stay -/
structure Ik (H H' : Hp) : Prop where
  ins : ∀ a C dx fs, H a = some (.ins C dx fs) → H' a = some (.ins C dx fs)
  tup : Tk H H'
theorem Ik.trans {H H1 H2 : Hp} (a : Ik H H1) (b : Ik H1 H2) : Ik H H2 := ⟨fun x C dx fs h => b.ins x C dx fs (a.ins x C dx fs h), a.tup.trans b.tup⟩
theorem Same.ik {H H' : Hp} (e : Same H H') : Ik H H' := ⟨fun a C dx fs h => e _ _ h, Same.tk e⟩
theorem Nk.ik {H H' : Hp} (k : Nk H H') : Ik H H' := ⟨fun a C dx fs h => k _ _ h (fun xs e => by cases e), k.tk⟩
theorem ik_dic {H : Hp} {p : Addr} {o : HO} {kvs : List (Key × V)} (h : H p = some (.dK kvs)) : Ik H (upd H p o) :=
  ⟨fun a C dx fs e => at_ne (fun z => by rw [z, h] at e; cases e) e, fun a xs e => at_ne (fun z => by rw [z, h] at e; cases e) e⟩
theorem RuleAt.ik {K : PySem.W.Frag} {H H' : Hp} {v : V} {r : RuleD} (k : Ik H H') (h : RuleAt K H v r) : RuleAt K H' v r := let ⟨a, dx, wv, e, h, q⟩ := h; ⟨a, dx, wv, e, k.ins _ _ _ _ h, q.tk k.tup⟩
abbrev RulesAt (K : PySem.W.Frag) (H : Hp) : List V → List RuleD → Prop := Paired (RuleAt K H)
theorem RulesAt.ik {K : PySem.W.Frag} {H H' : Hp} {xs : List V} {rs : List RuleD} (k : Ik H H') (h : RulesAt K H xs rs) : RulesAt K H' xs rs := Paired.mapP h fun _ _ q => q.ik k
/-- the rules of a word, the newest first -/
def newestOf (rs : List RuleD) (w : Wd) : List RuleD := (rs.filter fun r => decide (r.w = w)).reverse
theorem newest_snoc (rs : List RuleD) (r : RuleD) (w : Wd) : newestOf (rs ++ [r]) w = if r.w = w then r :: newestOf rs w else newestOf rs w := by
  unfold newestOf
  rw [List.filter_append, List.reverse_append]
  by_cases h : r.w = w <;> simp [h]
/-- a book's parts -/
structure BookIn (K : PySem.W.Frag) (H : Hp) (a dx lk nd : Addr) (kvs : List (Key × V)) (nw : Wd → Option Addr) (rs : List RuleD) : Prop where
  obj : H a = some (.ins (He.ga K "Book") dx [("kept", .ref lk), ("newest", .ref nd)])
  kept : ∃ ks, H lk = some (.lst ks) ∧ RulesAt K H ks rs
  dic : H nd = some (.dK kvs)
  small : kvs.length ≤ rs.length
  key : ∀ w : Wd, valV kvs (.inr w.word) = (nw w).map V.ref
  here : ∀ w l, nw w = some l → ∃ xs, H l = some (.lst xs) ∧ RulesAt K H xs (newestOf rs w)
  none' : ∀ w, nw w = none → newestOf rs w = []
  inj : ∀ w w' l, nw w = some l → nw w' = some l → w = w'
  ne : ∀ w l, nw w = some l → l ≠ lk
theorem Wd.word_inj {w v : Wd} (h : w.word = v.word) : w = v := by
  have h1 := wordOf_word w
  rw [h, wordOf_word] at h1
  exact (Option.some.inj h1).symm
/-- one more rule -/
theorem BookIn.step {K : PySem.W.Frag} {H H' : Hp} {a dx lk nd l : Addr} {kvs kvs' : List (Key × V)} {nw : Wd → Option Addr} {rs : List RuleD} {r : RuleD} {v : V} {ks xs : List V} (B : BookIn K H a dx lk nd kvs nw rs) (hv : RuleAt K H' v r) (ik : Ik H H')
    (hk : H lk = some (.lst ks)) (hk' : H' lk = some (.lst (ks ++ [v]))) (dic : H' nd = some (.dK kvs')) (small : kvs'.length ≤ rs.length + 1)
    (key : ∀ w : Wd, valV kvs' (.inr w.word) = if w = r.w then some (.ref l) else valV kvs (.inr w.word))
    (hl' : H' l = some (.lst (v :: xs))) (hl : (nw r.w = some l ∧ H l = some (.lst xs)) ∨ (nw r.w = none ∧ xs = [] ∧ l ≠ lk ∧ ∀ w, nw w ≠ some l))
    (oth : ∀ w p, w ≠ r.w → nw w = some p → ∀ ys, H p = some (.lst ys) → H' p = some (.lst ys)) :
    BookIn K H' a dx lk nd kvs' (fun w => if w = r.w then some l else nw w) (rs ++ [r]) := by
  obtain ⟨ks0, hk0, hks⟩ := B.kept
  obtain rfl : ks0 = ks := by rw [hk] at hk0; cases hk0; rfl
  have hxs : RulesAt K H' xs (newestOf rs r.w) := by
    rcases hl with ⟨h1, h2⟩ | ⟨h1, h2, -⟩
    · obtain ⟨ys, h3, h4⟩ := B.here _ _ h1
      rw [h2] at h3
      cases h3
      exact h4.ik ik
    · rw [h2, B.none' _ h1]
      exact .nil
  have lne : l ≠ lk := by
    rcases hl with ⟨h1, -⟩ | ⟨-, -, h3, -⟩
    · exact B.ne _ _ h1
    · exact h3
  have lother : ∀ w, w ≠ r.w → nw w ≠ some l := fun w hw e => by
    rcases hl with ⟨h1, -⟩ | ⟨-, -, -, h4⟩
    · exact hw (B.inj _ _ _ e h1)
    · exact h4 w e
  refine ⟨ik.ins _ _ _ _ B.obj, ⟨_, hk', Paired.snoc (hks.ik ik) hv⟩, dic, by rw [List.length_append]; exact small, fun w => ?_, fun w p hp => ?_, fun w hw => ?_, fun w w' p h1 h2 => ?_, fun w p hp => ?_⟩
  · rw [key]
    by_cases h : w = r.w
    · rw [if_pos h, if_pos h]; rfl
    · rw [if_neg h, if_neg h, B.key]
  · by_cases h : w = r.w
    · rw [if_pos h] at hp
      cases hp
      subst h
      refine ⟨_, hl', ?_⟩
      rw [newest_snoc, if_pos rfl]
      exact .cons hv hxs
    · rw [if_neg h] at hp
      obtain ⟨ys, h3, h4⟩ := B.here _ _ hp
      refine ⟨ys, oth w p h hp ys h3, ?_⟩
      rw [newest_snoc, if_neg (Ne.symm h)]
      exact h4.ik ik
  · by_cases h : w = r.w
    · rw [if_pos h] at hw; cases hw
    · rw [if_neg h] at hw
      rw [newest_snoc, if_neg (Ne.symm h)]
      exact B.none' _ hw
  · by_cases e1 : w = r.w
    · by_cases e2 : w' = r.w
      · rw [e1, e2]
      · rw [if_pos e1] at h1
        rw [if_neg e2] at h2
        cases h1
        exact absurd h2 (lother _ e2)
    · rw [if_neg e1] at h1
      by_cases e2 : w' = r.w
      · rw [if_pos e2] at h2
        cases h2
        exact absurd h1 (lother _ e1)
      · rw [if_neg e2] at h2
        exact B.inj _ _ _ h1 h2
  · by_cases e1 : w = r.w
    · rw [if_pos e1] at hp
      cases hp
      exact lne
    · rw [if_neg e1] at hp
      exact B.ne _ _ hp
/-- the dict and the lists of a book -/
def BookF (lk nd : Addr) (nw : Wd → Option Addr) : List Addr := nd :: lk :: [Wd.price, .come, .go, .least, .most, .deal, .fee].filterMap nw
theorem bookF_mem {lk nd : Addr} {nw : Wd → Option Addr} {w : Wd} {l : Addr} (h : nw w = some l) : l ∈ BookF lk nd nw := by
  refine List.mem_cons_of_mem _ (List.mem_cons_of_mem _ (List.mem_filterMap.mpr ⟨w, ?_, h⟩))
  cases w <;> simp
/-- a book; F: its lists -/
def BookAt (K : PySem.W.Frag) (H : Hp) (F : List Addr) (v : V) (rs : List RuleD) : Prop := ∃ a dx lk nd kvs nw, v = .ref a ∧ F = BookF lk nd nw ∧ BookIn K H a dx lk nd kvs nw rs
theorem BookAt.mono {K : PySem.W.Frag} {H H' : Hp} {F : List Addr} {v : V} {rs : List RuleD} (k : Nk H H') (l : ∀ p ∈ F, ∀ xs, H p = some (.lst xs) → H' p = some (.lst xs)) (h : BookAt K H F v rs) : BookAt K H' F v rs := by
  obtain ⟨a, dx, lk, nd, kvs, nw, rfl, rfl, B⟩ := h
  obtain ⟨ks, h1, h2⟩ := B.kept
  have ik := k.ik
  refine ⟨a, dx, lk, nd, kvs, nw, rfl, rfl, ik.ins _ _ _ _ B.obj, ⟨ks, l _ (by simp [BookF]) _ h1, h2.ik ik⟩, k _ _ B.dic (fun xs e => by cases e), B.small, B.key, fun w p hp => ?_, B.none', B.inj, B.ne⟩
  obtain ⟨xs, h3, h4⟩ := B.here w p hp
  exact ⟨xs, l _ (bookF_mem hp) _ h3, h4.ik ik⟩
theorem BookAt.known {K : PySem.W.Frag} {H : Hp} {F : List Addr} {v : V} {rs : List RuleD} (h : BookAt K H F v rs) : ∀ p ∈ F, ∃ o, H p = some o := by
  obtain ⟨a, dx, lk, nd, kvs, nw, rfl, rfl, B⟩ := h
  intro p hp
  rcases List.mem_cons.mp hp with rfl | hp
  · exact ⟨_, B.dic⟩
  rcases List.mem_cons.mp hp with rfl | hp
  · obtain ⟨ks, h1, -⟩ := B.kept
    exact ⟨_, h1⟩
  · obtain ⟨w, -, hw⟩ := List.mem_filterMap.mp hp
    obtain ⟨xs, h1, -⟩ := B.here w p hw
    exact ⟨_, h1⟩
theorem bk_same {K : PySem.W.Frag} {H H' : Hp} {F : List Addr} {v : V} {rs : List RuleD} (k : Same H H') (h : BookAt K H F v rs) : BookAt K H' F v rs := h.mono (Same.nk k) fun p _ xs e => k _ _ e
theorem bk_kp {K : PySem.W.Frag} {H H' : Hp} {t b s : Addr} {F : List Addr} {v : V} {rs : List RuleD} (k : Kp [t, b] H H') (T : Tape H t b s) (n : ∀ p ∈ F, p ∉ [t, b]) (h : BookAt K H F v rs) : BookAt K H' F v rs := h.mono (nk_kp T k) fun q hq xs e => k _ _ e (n q hq)
/-! YS: what a book's defs promise, and that they keep it. -/
open PySem PySem.Spec PyProof.Rows L2
theorem find_at {α : Type} {p : α → Bool} : ∀ {l : List α} {i : Nat} {r : α}, (∀ x ∈ l.take i, p x = false) → l[i]? = some r → p r = true → l.find? p = some r
  | [], _, _, _, e, _ => by simp at e
  | a :: l, 0, r, _, e, h => by
    simp at e
    subst e
    rw [List.find?_cons, h]
  | a :: l, i + 1, r, n, e, h => by
    rw [List.find?_cons, n a (by simp)]
    exact find_at (i := i) (fun x hx => n x (by simp [hx])) (by simpa using e) h
/-- a raise that is never reached -/
def tNever : TS := fun _ _ _ => False
theorem ps_never {X : Cx} {s : Stmt} : PS X s tNever := ⟨fun _ _ _ _ _ _ h => h.elim⟩
def usualD : Wd → PyData
  | .price => .none | .come => .bool true | .go => .bool true | .least => .int 1 | .most => .int 14 | .deal => .none | .fee => .int 0
def usualV : Wd → V
  | .price => .non | .come => .bl true | .go => .bl true | .least => .int 1 | .most => .int 14 | .deal => .non | .fee => .int 0
theorem usual_td (H : Hp) (w : Wd) : Td H (usualV w) (usualD w) := by
  cases w
  · exact .non
  · exact .bl true
  · exact .bl true
  · exact .int 1
  · exact .int 14
  · exact .non
  · exact .int 0
def tellsD (rs : List RuleD) (w : Wd) (day : Int) : PyData := match (newestOf rs w).find? fun r => decide (r.f ≤ day) && decide (day ≤ r.l) with
  | some r => r.d
  | none => usualD w
def sp_usual (K : PySem.W.Frag) : Sp := Sp1 fun x H Q E => ∃ w : Wd, x = .str w.word ∧ Q (usualV w) H
theorem g_usual {K : PySem.W.Frag} {w : Wd} {H : Hp} {Q : VK} {E : XK} (q : Q (usualV w) H) : sp_usual K ([.str w.word] ++ []) H Q E := ⟨_, rfl, w, rfl, q⟩
def sp_Book_rules (K : PySem.W.Frag) : Sp := Sp1 fun v H Q E => CFR K ∧ CFB K ∧ ∃ F rs, BookAt K H F v rs ∧ rs.length ≤ 1000 ∧ ∀ p H' ys, Same H H' → Fr H p → H' p = some (.lst ys) → Paired (RuT H') ys rs → Q (.ref p) H'
theorem g_brules {K : PySem.W.Frag} {F : List Addr} {rs : List RuleD} {v : V} {H : Hp} {Q : VK} {E : XK} (c : CFR K) (cb : CFB K) (b : BookAt K H F v rs) (l : rs.length ≤ 1000) (q : ∀ p H' ys, Same H H' → Fr H p → H' p = some (.lst ys) → Paired (RuT H') ys rs → Q (.ref p) H') : sp_Book_rules K (v :: ([] ++ [])) H Q E := ⟨_, rfl, c, cb, F, rs, b, l, q⟩
def sp_Book_tells_of (K : PySem.W.Frag) : Sp := Sp3 fun v u y H Q E => CFR K ∧ CFB K ∧ ∃ F rs w day, BookAt K H F v rs ∧ u = .str w.word ∧ y = .int day ∧ ∀ x H', Same H H' → Td H' x (tellsD rs w day) → Q x H'
theorem g_tells_of {K : PySem.W.Frag} {F : List Addr} {rs : List RuleD} {w : Wd} {day : Int} {v : V} {H : Hp} {Q : VK} {E : XK} (c : CFR K) (cb : CFB K) (b : BookAt K H F v rs) (q : ∀ x H', Same H H' → Td H' x (tellsD rs w day) → Q x H') : sp_Book_tells_of K (v :: ([.str w.word, .int day] ++ [])) H Q E := ⟨_, _, _, rfl, c, cb, F, rs, w, day, b, rfl, rfl, q⟩
def sp_Book_init (K : PySem.W.Frag) : Sp := Sp2 fun v y H Q E => CFR K ∧ CFB K ∧ ∃ (a dx : Addr) (xs : List V) (rs : List RuleD), v = .ref a ∧ H a = some (.ins (He.ga K "Book") dx []) ∧ ((y = .non ∧ xs = []) ∨ ∃ p, y = .ref p ∧ SqL K H p xs) ∧ Paired (RuT H) xs rs ∧ rs.length ≤ 24 ∧ (∀ r ∈ rs, RuleD.good r) ∧
  ∀ H' F, Kp [a] H H' → BookAt K H' F v rs → (∀ p ∈ F, Fr H p) → Q .non H'
theorem g_mkBook {K : PySem.W.Frag} {E : XK} {H : Hp} {Q : VK} {vs dvs : List V} {y : V} {xs : List V} {rs : List RuleD} (c : CFR K) (cb : CFB K) (e : vs ++ dvs = [y]) (h : (y = .non ∧ xs = []) ∨ ∃ p, y = .ref p ∧ SqL K H p xs) (hp : Paired (RuT H) xs rs) (hl : rs.length ≤ 24) (hg : ∀ r ∈ rs, RuleD.good r)
    (q : ∀ v F H', Same H H' → BookAt K H' F v rs → (∀ p ∈ F, Fr H p) → Q v H') : rMake (He.ga K "Book") (sp_Book_init K) dvs E vs H Q := by
  intro a dx ha hd hne
  have h1 : upd H dx (.own a) a = none := by rw [upd_ne hne.symm]; exact ha
  have sm : Same H (upd (upd H dx (.own a)) a (.ins (He.ga K "Book") dx [])) := (same_new hd).trans (same_new h1)
  rw [e]
  refine ⟨_, _, rfl, c, cb, a, dx, xs, rs, rfl, upd_same, ?_, Paired.mapP hp fun _ _ r => r.tk (Same.tk sm), hl, hg, fun H' F k b f => ⟨rfl, q _ F H' (fun p o z => ?_) b fun p hp => Same.free sm (f p hp)⟩⟩
  · rcases h with h | ⟨p, h1, h2⟩
    · exact .inl h
    · exact .inr ⟨p, h1, Same.seq sm h2⟩
  · refine k _ _ (sm _ _ z) fun m => ?_
    rw [List.mem_singleton.mp m, ha] at z
    cases z
theorem g_bmeth {K : PySem.W.Frag} {m : Str} {sp : Sp} {t : TA} {n : Nat} {σ : L2.St} {H : Hp} {Q : VK} {v : V} {F : List Addr} {rs : List RuleD} (h : σ[n]? = some (some v)) (b : BookAt K H F v rs) (no : decide (m = "kept") = false ∧ decide (m = "newest") = false)
    (q : t σ H fun vs H2 => sp (v :: (vs ++ [])) H2 Q E0) : tMeth (He.ga K "Book") m sp [] E0 (tVar n) t σ H Q := by
  obtain ⟨a, dx, lk, nd, kvs, nw, rfl, rfl, B⟩ := b
  refine ⟨_, h, a, dx, _, rfl, B.obj, ?_, q⟩
  have h1 : (m == ("kept" : Str)) = false := beq_eq_false_iff_ne.mpr (of_decide_eq_false no.1)
  have h2 : (m == ("newest" : Str)) = false := beq_eq_false_iff_ne.mpr (of_decide_eq_false no.2)
  simp only [List.lookup, h1, h2]
theorem g_bfld {K : PySem.W.Frag} {f : Str} {n : Nat} {σ : L2.St} {H : Hp} {Q : VK} {a dx : Addr} {u x y : V} (cb : CFB K) (h : σ[n]? = some (some (.ref a))) (o : H a = some (.ins (He.ga K "Book") dx [("kept", x), ("newest", y)])) (m : f ∈ (["kept", "newest"] : List Str))
    (l : ([("kept", x), ("newest", y)] : List (Str × V)).lookup f = some u) (q : Q u H) : tFld K (tVar n) f σ H Q := ⟨_, h, a, _, dx, _, u, rfl, o, CFB.cls cb, CFB.no cb m, l, q⟩
/-- a field is written -/
def rSF (K : PySem.W.Frag) (f : Str) (x y : V) (H2 : Hp) (Q : Hp → Prop) : Prop := ∃ a C dx fs, x = .ref a ∧ H2 a = some (.ins C dx fs) ∧ Cls K C ∧ NoAttr K C f ∧ fs.length < 1000 ∧ Q (upd H2 a (.ins C dx (putF f y fs)))
theorem g_sFld {K : PySem.W.Frag} {ta tv : TE} {f : Str} {D : Ends} {σ : L2.St} {H : Hp} (q : tv σ H fun y H1 => ta σ H1 fun x H2 => rSF K f x y H2 fun H3 => D.nx σ H3) : sFld K ta tv f D σ H := q
theorem g_bset {K : PySem.W.Frag} {f : Str} {a dx : Addr} {fs : List (Str × V)} {y : V} {H : Hp} {Q : Hp → Prop} (cb : CFB K) (h : H a = some (.ins (He.ga K "Book") dx fs)) (m : f ∈ (["kept", "newest"] : List Str)) (l : fs.length < 1000) (q : Q (upd H a (.ins (He.ga K "Book") dx (putF f y fs)))) : rSF K f (.ref a) y H Q :=
  ⟨a, _, dx, fs, rfl, h, CFB.cls cb, CFB.no cb m, l, q⟩
theorem g_insert0 {H : Hp} {Q : VK} {l : Addr} {xs : List V} {y : V} (h : H l = some (.lst xs)) (z : xs.length < sizeLine) (q : Q .non (upd H l (.lst (y :: xs)))) : rInsert (.ref l) [.int 0, y] H Q :=
  ⟨l, xs, 0, y, rfl, rfl, h, z, by decide, by decide, by simpa using q⟩
theorem g_dSetd {td ty tx : TE} {σ : L2.St} {H : Hp} {Q : VK} (q : td σ H fun x H1 => ∃ a, x = .ref a ∧ IsD H1 a ∧ ty σ H1 fun y H2 => tx σ H2 fun z H3 => ∃ (kvs : List (Key × V)) (k : Key), H3 a = some (.dK kvs) ∧ y = kV k ∧ kvs.length < sizeLine ∧
  (∀ v, valV kvs k = some v → Q v H3) ∧ (valV kvs k = none → Q z (upd H3 a (.dK (putK kvs k z))))) : tDSetd td ty tx σ H Q := q
theorem g_iEnum {K : PySem.W.Frag} {σ : L2.St} {H : Hp} {ta : TA} {R : It → Hp → Prop} (h : ta σ H fun vs H1 => ∃ a xs, vs = [.ref a] ∧ SqL K H1 a xs ∧ R (Ite K a) H1) : iEnum K ta σ H R := h
theorem g_rule_ofG {K : PySem.W.Frag} {x : V} {r : RuleD} {H : Hp} {Q : VK} {E : XK} (c : CFR K) (h : RuT H x r) (g : r.good) (q : ∀ v H', Same H H' → RuleAt K H' v r → Q v H') : sp_rule_of K ([x] ++ []) H Q E :=
  g_rule_of c h.td.at0 (fun e => by rw [asRule_told g] at e; cases e) fun r' e v H' s hv => by
    rw [asRule_told g] at e
    cases e
    exact q v H' s hv
def t_usual (K : PySem.W.Frag) : TS :=
  (tSeq (tIfS (tOr (tTest (tOp rEq (tVar 0) (tC (.str "come")))) (tTest (tOp rEq (tVar 0) (tC (.str "go")))))
  (tRet (tC (.bl true)))
  tNext)
  (tSeq (tIfS (tTest (tOp rEq (tVar 0) (tC (.str "least"))))
  (tRet (tC (.int 1)))
  tNext)
  (tSeq (tIfS (tTest (tOp rEq (tVar 0) (tC (.str "most"))))
  (tRet (tC (.int 14)))
  tNext)
  (tSeq (tIfS (tTest (tOp rEq (tVar 0) (tC (.str "fee"))))
  (tRet (tC (.int 0)))
  tNext)
  (tRet (tC .non))))))
theorem pure_usual {K : PySem.W.Frag} {x : V} {H : Hp} {Q : VK} {E : XK} (h : sp_usual K [x] H Q E) : t_usual K { nx := fun _ H' => Q .non H', rt := Q } [some x] H := by
  obtain ⟨x, e, w, rfl, q⟩ := h
  cases e
  unfold t_usual
  cases w <;> (walk_at "ss"; repeat (first | (refine ite_dt rfl ?_; walk_at "ss") | (refine ite_df (by decide) ?_; walk_at "ss"))) <;> exact q
def t_Book_rules (K : PySem.W.Frag) : TS :=
  (tRet (tLc (iList K (tFld K (tVar 0) "kept")) (gName 1) tYes (tRule K "told" (sp_told K) (tVar 1) tNil) [1]))
theorem pure_Book_rules {K : PySem.W.Frag} {v : V} {H : Hp} {Q : VK} {E : XK} (h : sp_Book_rules K [v] H Q E) : t_Book_rules K { nx := fun _ H' => Q .non H', rt := Q } [some v, none] H := by
  obtain ⟨v, e, c, cb, F, rs, ⟨a, dx, lk, nd, kvs, nw, rfl, rfl, B⟩, hl, q⟩ := h
  cases e
  obtain ⟨ks, hk, hks⟩ := B.kept
  unfold t_Book_rules
  walk_at "ss"
  refine g_bfld cb rfl B.obj (by decide) rfl ?_
  walk_at "ss"
  have hlen := Paired.length hks
  refine lc_r (walk_list (K := K) (a := lk) (xs := ks)) RuT (fun _ _ _ _ e h => h.tk e) (fun i => rs[i]?) (by omega) (fun H' s => SqL.of (s _ _ hk)) ?_ ?_
  · rintro D i x H2 H3 N hD hi s2 ⟨rfl, hx⟩ hN _
    obtain ⟨r, hr, hv⟩ := Paired.getL hks hx
    obtain ⟨wv, hi, hwv⟩ := (hv.ik (Same.ik s2)).ins
    walk_at "ss"
    rename_i p H4 s4 f4 h4
    exact hN _ r _ hr s4 ⟨p, wv, rfl, h4, by walk_at "td"⟩
  intro D H2 ys hD s2 h2 hp
  walk_at "ss"
  refine q D H2 ys s2 hD h2 ?_
  have e : (List.range ks.length).filterMap (fun i => rs[i]?) = rs := by
    rw [hlen]
    have := range_flt rs some
    simpa using this
  rwa [e] at hp
def t_Book_tells_of (K : PySem.W.Frag) : TS :=
  (tSeq (tFor (iList K (tDGet2 (tFld K (tVar 0) "newest") (tVar 1) (tLst tNil))) (gName 3)
  (tIfS (tB (tRule K "tells" (sp_tells K) (tVar 3) (tCons (tVar 2) tNil)))
  (tRet (tFld K (tVar 3) "worth"))
  tNext))
  (tRet (tCall (sp_usual K) [] E0 (tCons (tVar 1) tNil))))
theorem pure_Book_tells_of {K : PySem.W.Frag} {v u y : V} {H : Hp} {Q : VK} {E : XK} (h : sp_Book_tells_of K [v, u, y] H Q E) : t_Book_tells_of K { nx := fun _ H' => Q .non H', rt := Q } [some v, some u, some y, none] H := by
  obtain ⟨v, u, y, e, c, cb, F, rs, w, day, ⟨a, dx, lk, nd, kvs, nw, rfl, rfl, B⟩, rfl, rfl, q⟩ := h
  cases e
  unfold t_Book_tells_of
  refine g_seqF ?_
  refine g_for ?_
  refine g_iList ?_
  show tFld K (tVar 0) "newest" _ H _
  refine g_bfld cb rfl B.obj (by decide) rfl ?_
  refine ⟨nd, rfl, .inl ⟨kvs, .inl B.dic⟩, ?_⟩
  walk_at "ss"
  rename_i z hz
  have sm : Same H (upd H z (.lst [])) := same_new hz
  have hcur : ∃ l xs, ((valV kvs (.inr w.word)).getD (.ref z)) = .ref l ∧ (upd H z (.lst [])) l = some (.lst xs) ∧ RulesAt K (upd H z (.lst [])) xs (newestOf rs w) := by
    rw [B.key]
    cases hn : nw w with
    | some l =>
      obtain ⟨xs, h1, h2⟩ := B.here _ _ hn
      exact ⟨l, xs, rfl, sm _ _ h1, h2.ik (Same.ik sm)⟩
    | none => exact ⟨z, [], rfl, upd_same, by rw [B.none' _ hn]; exact .nil⟩
  obtain ⟨l, xs, e1, hl, hx⟩ := hcur
  refine ⟨_, DGet.k (k := .inr w.word) (sm _ _ B.dic), ?_⟩
  rw [e1]
  refine ⟨l, rfl, ⟨xs, SqL.of hl⟩, ?_⟩
  refine for_list (K := K) (a := l) (xs := xs) (fun i σ H' => ∃ v3, σ = [some (.ref a), some (.str w.word), some (.int day), v3] ∧ H' = upd H z (.lst []) ∧ ∀ r ∈ (newestOf rs w).take i, (decide (r.f ≤ day) && decide (day ≤ r.l)) = false)
    ⟨_, rfl, rfl, by simp⟩ (fun i σ H' _ h => by obtain ⟨_, _, h, _⟩ := h; rw [h]; exact SqL.of hl) ?_ ?_
  · rintro i x σ H' hi ⟨v3, rfl, rfl, hno⟩
    obtain ⟨r, hr, hv⟩ := Paired.getL hx hi
    obtain ⟨wv, hin, hwv⟩ := hv.ins
    walk_at "ss"
    refine ite_b (fun h1 => ?_) fun h1 => ?_
    · walk_at "ss"
      refine q _ _ sm ?_
      unfold tellsD
      rw [find_at hno hr h1]
      exact hwv
    · walk_at "ss"
      refine ⟨_, rfl, rfl, fun x hx2 => ?_⟩
      rw [List.take_add_one, hr] at hx2
      rcases List.mem_append.mp hx2 with hx2 | hx2
      · exact hno x hx2
      · simp at hx2
        rw [hx2]
        exact h1
  · rintro σ H' ⟨v3, rfl, rfl, hno⟩
    walk_at "ss"
    refine q _ _ sm ?_
    unfold tellsD
    rw [List.take_of_length_le (Nat.le_of_eq (Paired.length hx).symm)] at hno
    rw [List.find?_eq_none.mpr fun x hx2 => by rw [hno x hx2]; simp]
    exact usual_td _ w
def t_Book_init (K : PySem.W.Frag) : TS :=
  (tSeq (tAsg (tLst tNil) (gName 2))
  (tSeq (tIfS (tTest (tOp rNotN (tVar 1) (tC .non)))
  (tAsg (tCB (rListOf K) (tCons (tVar 1) tNil)) (gName 2))
  tNext)
  (tSeq (sFld K (tVar 0) (tLst tNil) "kept")
  (tSeq (sFld K (tVar 0) tDNewK "newest")
  (tSeq (tFor (iEnum K (tCons (tVar 2) tNil)) (gTup K 2 (gCons (gName 3) (gCons (gName 4) gNil)))
  (tSeq (tAsg (tCall (sp_rule_of K) [] E0 (tCons (tVar 4) tNil)) (gName 5))
  (tSeq (tIfS (tTest (tOp rIsN (tVar 5) (tC .non)))
  tNever
  tNext)
  (tSeq (tDrop (tBM K "list" rAppend (tFld K (tVar 0) "kept") (tCons (tVar 5) tNil)))
  (tDrop (tBM K "list" rInsert (tDSetd (tFld K (tVar 0) "newest") (tRule K "word" (sp_word K) (tVar 5) tNil) (tLst tNil)) (tCons (tC (.int 0)) (tCons (tVar 5) tNil))))))))
  (tIfS (tTest (tOp rGt (tCB (rLen K) (tCons (tVar 2) tNil)) (tC (.int 24))))
  tNever
  tNext))))))
theorem pure_Book_init {K : PySem.W.Frag} {v y : V} {H : Hp} {Q : VK} {E : XK} (h : sp_Book_init K [v, y] H Q E) : t_Book_init K { nx := fun _ H' => Q .non H', rt := Q } [some v, some y, none, none, none, none] H := by
  obtain ⟨v, y, e, c, cb, a, dx, xs, rs, rfl, ho, hy, hxs, hl, hg, q⟩ := h
  cases e
  unfold t_Book_init
  walk_at "ss"
  rename_i th0 hth0
  have hlen := Paired.length hxs
  with_reducible refine jn (P := fun σ H' => ∃ th, σ = [some (.ref a), some y, some (.ref th), none, none, none] ∧ Same H H' ∧ H' th = some (.lst xs)) ?_ fun N hN => ?_
  · clear hth0
    rintro σ H1 ⟨th, rfl, s1, h1⟩
    with_reducible refine g_seq ?_
    with_reducible refine g_sFld ?_
    walk_at "ss"
    rename_i lk hlk
    refine g_bset cb (at_new hlk (s1 _ _ ho)) (by decide) (by decide) ?_
    with_reducible refine g_seq ?_
    with_reducible refine g_sFld ?_
    show ∀ nd, _ = none → _
    intro nd hnd
    walk_at "ss"
    have hla : a ≠ lk := ne_of_none (s1 _ _ ho) hlk
    have hda : a ≠ nd := ne_of_none upd_same hnd
    have hdl : lk ≠ nd := ne_of_none (o := .lst []) (at_ne hla.symm upd_same) hnd
    have htl : th ≠ lk := ne_of_none h1 hlk
    have hta : th ≠ a := fun z => by rw [z, s1 _ _ ho] at h1; cases h1
    have htd : th ≠ nd := ne_of_none (o := .lst xs) (at_ne hta (at_ne htl h1)) hnd
    have fl : Fr H lk := Same.free s1 hlk
    have fd : Fr H nd := Same.free s1 (by
      have z := hnd
      rw [upd_ne hda.symm, upd_ne hdl.symm] at z
      exact z)
    refine g_bset cb (at_ne hda upd_same) (by decide) (show (1 : Nat) < 1000 by decide) ?_
    obtain ⟨G, hG⟩ : ∃ G, G = upd (upd (upd (upd H1 lk (.lst [])) a (.ins (He.ga K "Book") dx (putF "kept" (.ref lk) []))) nd (.dK [])) a (.ins (He.ga K "Book") dx (putF "newest" (.ref nd) (putF "kept" (.ref lk) []))) := ⟨_, rfl⟩
    rw [← hG]
    have hGa : G a = some (.ins (He.ga K "Book") dx [("kept", .ref lk), ("newest", .ref nd)]) := by rw [hG]; exact upd_same
    have hGl : G lk = some (.lst []) := by rw [hG]; exact at_ne hla.symm (at_ne hdl (at_ne hla.symm upd_same))
    have hGd : G nd = some (.dK []) := by rw [hG]; exact at_ne hda.symm upd_same
    have hGt : G th = some (.lst xs) := by rw [hG]; exact at_ne hta (at_ne htd (at_ne hta (at_ne htl h1)))
    have kG : Kp [a] H G := fun p o e n => by
      have np : p ≠ a := fun z => n (by rw [z]; simp)
      rw [hG]
      exact at_ne np (at_ne (ne_of_none e fd) (at_ne np (at_ne (ne_of_none e fl) (s1 _ _ e))))
    have BG : BookIn K G a dx lk nd [] (fun _ => none) [] := ⟨hGa, ⟨[], hGl, .nil⟩, hGd, Nat.le_refl _, (fun _ => rfl), (fun _ _ e => by cases e), (fun _ _ => rfl), (fun _ _ _ e => by cases e), (fun _ _ e => by cases e)⟩
    clear hG hnd hlk h1 s1 hGa hGl hGd
    with_reducible refine g_seqF ?_
    refine g_for ?_
    refine g_iEnum ?_
    walk_at "ss"
    refine ⟨th, xs, rfl, SqL.of hGt, ?_⟩
    refine for_it (walk_enum (K := K) (a := th) (xs := xs)) (fun i σ H' => ∃ v3 v4 v5 kvs nw, σ = [some (.ref a), some y, some (.ref th), v3, v4, v5] ∧ Kp [a] H H' ∧ H' th = some (.lst xs) ∧ BookIn K H' a dx lk nd kvs nw (rs.take i) ∧ ∀ w l, nw w = some l → Fr H l ∧ l ≠ th)
      ⟨_, _, _, [], _, rfl, kG, hGt, BG, (fun _ _ e => by cases e)⟩ (fun i σ H' _ h => by obtain ⟨_, _, _, _, _, _, _, h, _⟩ := h; exact SqL.of h) ?_ ?_
    · clear BG kG hGt G H1 th0 q
      rintro i x σ H' H2 hi ⟨v3, v4, v5, kvs, nw, rfl, k', ht, B, hnw⟩ ⟨T, x1, x2, rfl, hT, rfl, h1, h2⟩
      replace hT : Fr H' T := hT
      replace h2 : xs[i]? = some x2 := h2
      obtain rfl : x1 = .int (i : Nat) := (Option.some.inj h1).symm
      obtain ⟨r, hr, hx⟩ := Paired.getL hxs h2
      have hgr := hg r (List.mem_of_getElem? hr)
      have tkA : Tk H H' := fun p ys e => k' _ _ e fun m => by rw [List.mem_singleton.mp m, ho] at e; cases e
      have hx2 : RuT (upd H' T (.tup [.int (i : Nat), x2])) x2 r := (hx.tk tkA).tk (tk_new hT)
      walk_at "ss"
      refine g_rule_ofG c hx2 hgr fun v H3 s3 hv => ?_
      walk_at "ss"
      obtain ⟨pv, dv, wv, rfl, hvo, hvd⟩ := id hv
      have s' : Same H' H3 := (same_new hT).trans s3
      obtain ⟨ks, hk, hks⟩ := B.kept
      have hk3 := s' _ _ hk
      have hkl : ks.length ≤ 24 := by
        rw [Paired.length hks, List.length_take]
        omega
      have hsm := B.small
      rw [List.length_take] at hsm
      have etk : rs.take (i + 1) = rs.take i ++ [r] := by rw [List.take_add_one, hr]; rfl
      have hla3 : a ≠ lk := hla
      have hin : InsAt K H3 (.ref pv) r.w (.int r.f) (.int r.l) wv := ⟨pv, dv, rfl, hvo⟩
      with_reducible refine g_seq ?_
      walk_at "ss"
      refine ite_df (by simp) ?_
      with_reducible refine g_next ?_
      with_reducible refine g_seqD ?_
      with_reducible refine g_drop ?_
      with_reducible refine g_bm ?_
      refine g_bfld cb rfl (s' _ _ B.obj) (by decide) rfl ?_
      walk_at "ss"
      have hin4 : InsAt K (upd H3 lk (.lst (ks ++ [.ref pv]))) (.ref pv) r.w (.int r.f) (.int r.l) wv := ins_put hk3 hin
      have dic4 : (upd H3 lk (.lst (ks ++ [.ref pv]))) nd = some (.dK kvs) := at_ne hdl.symm (s' _ _ B.dic)
      refine g_dSetd ?_
      refine g_bfld cb rfl (at_ne hla (s' _ _ B.obj)) (by decide) rfl ?_
      refine ⟨nd, rfl, .inl ⟨kvs, .inl dic4⟩, ?_⟩
      walk_at "ss"
      rename_i z hz
      have hzk : Fr H3 z := fr_new hz
      have hz' : Fr H' z := Same.free s' hzk
      have fz : Fr H z := by
        refine fr_kp hz' k' fun m => ?_
        rw [List.mem_singleton.mp m] at hz'
        have := B.obj
        rw [show H' a = none from hz'] at this
        cases this
      have zlk : z ≠ lk := (ne_of_none hk3 hzk).symm
      have zth : z ≠ th := (ne_of_none ht hz').symm
      have znd : z ≠ nd := (ne_of_none (s' _ _ B.dic) hzk).symm
      have za : z ≠ a := (ne_of_none (s' _ _ B.obj) hzk).symm
      have ik4 : Ik H' (upd (upd H3 lk (.lst (ks ++ [.ref pv]))) z (.lst [])) := (Same.ik s').trans (((nk_put hk3).trans (nk_new hz)).ik)
      have hv4 : RuleAt K (upd (upd H3 lk (.lst (ks ++ [.ref pv]))) z (.lst [])) (.ref pv) r := hv.ik (((nk_put hk3).trans (nk_new hz)).ik)
      refine ⟨kvs, .inr r.w.word, at_new hz dic4, rfl, by rw [sizeLine_eq]; omega, fun v' hv' => ?_, fun hn => ?_⟩
      · rw [B.key] at hv'
        cases hn : nw r.w with
        | none => rw [hn] at hv'; cases hv'
        | some l =>
          rw [hn] at hv'
          obtain rfl : V.ref l = v' := Option.some.inj hv'
          obtain ⟨ys, hly, hys⟩ := B.here _ _ hn
          have llk := B.ne _ _ hn
          have lz : l ≠ z := ne_of_none hly hz'
          have hl5 : (upd (upd H3 lk (.lst (ks ++ [.ref pv]))) z (.lst [])) l = some (.lst ys) := at_ne lz (at_ne llk (s' _ _ hly))
          refine g_tyL (SqL.of hl5) ?_
          walk_at "ss"
          refine g_insert0 hl5 (by
            rw [Paired.length hys, sizeLine_eq]
            unfold newestOf
            rw [List.length_reverse]
            have h1 := List.length_filter_le (fun r' : RuleD => decide (r'.w = r.w)) (rs.take i)
            rw [List.length_take] at h1
            omega) ?_
          have ik5 := ik4.trans (nk_put (o := .lst (.ref pv :: ys)) hl5).ik
          refine ⟨_, _, _, kvs, (fun w => if w = r.w then some l else nw w), rfl, ?_, ?_, ?_, fun w p hp => ?_⟩
          · exact fun p o e n => at_ne (ne_of_none e (hnw _ _ hn).1) (at_ne (ne_of_none e fz) (at_ne (ne_of_none e fl) (s' _ _ (k' _ _ e n))))
          · exact at_ne (Ne.symm (hnw _ _ hn).2) (at_ne zth.symm (at_ne htl (s' _ _ ht)))
          · rw [etk]
            refine B.step (hv4.ik (nk_put hl5).ik) ik5 hk (at_ne llk.symm (at_ne zlk.symm upd_same)) (at_ne ?_ (at_new hz dic4)) (by rw [List.length_take]; omega) (fun w => ?_) upd_same (.inl ⟨hn, hly⟩) fun w p hw hp ys' hy' => ?_
            · intro e
              rw [← e] at hly
              rw [B.dic] at hly
              cases hly
            · by_cases e : w = r.w
              · rw [if_pos e, e, B.key, hn]; rfl
              · rw [if_neg e]
            · have pl : p ≠ l := fun e => hw (B.inj _ _ _ hp (by rw [e]; exact hn))
              exact at_ne pl (at_ne (ne_of_none hy' hz') (at_ne (B.ne _ _ hp) (s' _ _ hy')))
          · replace hp : (if w = r.w then some l else nw w) = some p := hp
            by_cases e : w = r.w
            · rw [if_pos e] at hp
              cases hp
              exact hnw _ _ hn
            · rw [if_neg e] at hp
              exact hnw _ _ hp
      · have hnn : nw r.w = none := by
          rw [B.key] at hn
          cases e : nw r.w with
          | none => rfl
          | some l => rw [e] at hn; cases hn
        have hz5 : (upd (upd (upd H3 lk (.lst (ks ++ [.ref pv]))) z (.lst [])) nd (.dK (putK kvs (.inr r.w.word) (.ref z)))) z = some (.lst []) := at_ne znd upd_same
        refine g_tyL (SqL.of hz5) ?_
        walk_at "ss"
        try refine g_insert0 hz5 (by rw [sizeLine_eq]; decide) ?_
        have ikd := ik_dic (o := .dK (putK kvs (.inr r.w.word) (.ref z))) (at_new (u := .lst []) hz dic4)
        have ik5 := (ik4.trans ikd).trans (nk_put (o := .lst [.ref pv]) hz5).ik
        refine ⟨_, _, _, putK kvs (.inr r.w.word) (.ref z), (fun w => if w = r.w then some z else nw w), rfl, ?_, ?_, ?_, fun w p hp => ?_⟩
        · exact fun p o e n => at_ne (ne_of_none e fz) (at_ne (ne_of_none e fd) (at_ne (ne_of_none e fz) (at_ne (ne_of_none e fl) (s' _ _ (k' _ _ e n)))))
        · exact at_ne zth.symm (at_ne htd (at_ne zth.symm (at_ne htl (s' _ _ ht))))
        · rw [etk]
          refine B.step ((hv4.ik ikd).ik (nk_put hz5).ik) ik5 hk (at_ne zlk.symm (at_ne hdl (at_ne zlk.symm upd_same))) (at_ne znd.symm upd_same) (by
            have := length_putK kvs (.inr r.w.word) (.ref z)
            rw [List.length_take]
            omega) (fun w => ?_) upd_same (.inr ⟨hnn, rfl, zlk, fun w e => ?_⟩) fun w p hw hp ys' hy' => ?_
          · rw [valV_put]
            by_cases e : w = r.w
            · rw [if_pos e, if_pos (by rw [e])]
            · rw [if_neg e, if_neg fun h => e (Wd.word_inj (Sum.inr.inj h))]
          · obtain ⟨ys, h3, -⟩ := B.here _ _ e
            rw [show H' z = none from hz'] at h3
            cases h3
          · have pnd : p ≠ nd := fun e => by
              rw [e, B.dic] at hy'
              cases hy'
            exact at_ne (ne_of_none hy' hz') (at_ne pnd (at_ne (ne_of_none hy' hz') (at_ne (B.ne _ _ hp) (s' _ _ hy'))))
        · replace hp : (if w = r.w then some z else nw w) = some p := hp
          by_cases e : w = r.w
          · rw [if_pos e] at hp
            cases hp
            exact ⟨fz, zth⟩
          · rw [if_neg e] at hp
            exact hnw _ _ hp
    · rintro σ H' ⟨v3, v4, v5, kvs, nw, rfl, k', ht, B, hnw⟩
      walk_at "ss"
      refine ite_df (by rw [hlen]; omega) ?_
      walk_at "ss"
      rw [List.take_of_length_le (by omega)] at B
      refine q H' _ k' ⟨a, dx, lk, nd, kvs, nw, rfl, rfl, B⟩ fun p hp => ?_
      rcases List.mem_cons.mp hp with rfl | hp
      · exact fd
      rcases List.mem_cons.mp hp with rfl | hp
      · exact fl
      · obtain ⟨w, -, hw⟩ := List.mem_filterMap.mp hp
        exact (hnw w p hw).1
  · walk_at "ss"
    rcases hy with ⟨rfl, rfl⟩ | ⟨p, rfl, hp⟩
    · refine ite_ndt rfl ?_
      walk_at "ss"
      exact hN _ _ ⟨_, rfl, by walk_at "sm", upd_same⟩
    · refine ite_ndf (by simp) ?_
      walk_at "ss"
      exact hN _ _ ⟨_, rfl, by walk_at "sm", upd_same⟩
/-! YE: errors: raised, let out of defs, caught; the caught one is kept in the heap. -/
open PySem PySem.Spec PyProof.Rows L2
/-- an error that is kept at a: its class, its dict -/
def exK (a : Addr) (cls : Value) (d : Option Addr) : HO := .ext fun h => ∃ oe, h.get? a = some oe ∧ Zc cls d oe ∧ ∃ vs, oe.data = .fields vs
section
variable {P : Program} {w : World} {H : Hp} {h : Heap} {a : Addr} {cls : Value} {d : Option Addr}
theorem exK_get (hok : HOk P w H h) (e : H a = some (exK a cls d)) : ∃ oe, h.get? a = some oe ∧ Zc cls d oe ∧ ∃ vs, oe.data = .fields vs := by
  have x : ObjOk P w H h a (.ext fun h => ∃ oe, h.get? a = some oe ∧ Zc cls d oe ∧ ∃ vs, oe.data = .fields vs) := hok a _ e
  exact x.1
theorem exK_ok {oe : Obj} {vs : Array Value} (e : h.get? a = some oe) (z : Zc cls d oe) (f : oe.data = .fields vs) : ObjOk P w H h a (exK a cls d) :=
  ⟨⟨oe, e, z, vs, f⟩, ⟨oe, e⟩, fun _ _ ⟨o, q, z, f⟩ k => ⟨o, k o q, z, f⟩⟩
end
section
variable {X : Cx} {pins : List (Addr × Obj)} {σ : L2.St} {H : Hp} {s : Shared} {a : Addr} {oe : Obj} {vs : Array Value} {cls : Value} {d : Option Addr}
/-- a caught error's object is taken into the heap that is told -/
theorem inv_adopt (I : Inv X pins σ H s) (ha : s.heap.get? a = some oe) (hz : Zc cls d oe) (hd : oe.data = .fields vs) (na : H a = none) (old : X.s_0.heap.get? a = none) (nL : a ≠ X.env.locals) (np : ∀ p ∈ X.pn ++ pins, p.1 ≠ a) :
    Inv X pins σ (upd H a (exK a cls d)) s where
  ok := I.ok
  os := I.os
  bare := I.bare
  base :=
    { keep := I.base.keep
      slot := I.base.slot
      free := fun b o e n hx => by
        rw [upd_ne fun z => by rw [z, old] at e; cases e]
        exact I.base.free b o e n hx
      there := I.base.there
      tups := fun b xs e => by
        have z := I.base.tups b xs e
        rw [upd_ne (ne_of_none z na)]
        exact z
      frzs := fun b o u e => by
        have z := I.base.frzs b o u e
        rw [upd_ne (ne_of_none z na)]
        exact z
      tbls := fun b ps e => by
        obtain ⟨m, z⟩ := I.base.tbls b ps e
        exact ⟨m, by rw [upd_ne (ne_of_none z na)]; exact z⟩ }
  loc := I.loc
  cell := I.cell
  free := by
    rw [upd_ne (Ne.symm nL)]
    exact I.free
  freeC := fun x c e => by
    have nc : c ≠ a := fun z => by
      obtain ⟨v, o, h1, h2⟩ := I.cell x c e
      rw [z, ha] at h1
      cases h1
      first
        | (rw [hd] at h2; cases h2)
        | (have h3 := h2.1; rw [hd] at h3; cases h3)
    rw [upd_ne nc]
    exact I.freeC x c e
  pin := fun p hp => by
    obtain ⟨h1, h2, h3⟩ := I.pin p hp
    exact ⟨h1, by rw [upd_ne (np p hp)]; exact h2, h3⟩
  hok := fun b o e => by
    by_cases hb : b = a
    · subst hb
      rw [upd_same] at e
      cases e
      exact exK_ok ha hz hd
    · rw [upd_ne hb] at e
      refine (I.hok b o e).stay (fun _ _ _ z => z) (fun c z => ?_) fun c xs z => ?_
      · rw [upd_ne (ne_of_none z na)]
        exact z
      · rw [upd_ne (ne_of_none z na)]
        exact z
  len := I.len
theorem inv_inSuite (I : Inv X pins σ H s) (a : Addr) : Inv (X.suite a (X.pn ++ pins)) [] σ H s :=
  ⟨I.ok.suite a _, I.os, I.bare, I.base, I.loc, I.cell, I.free, I.freeC, fun p hp => I.pin p ((List.append_nil (X.pn ++ pins)) ▸ hp), I.hok, I.len⟩
theorem inv_ofSuite {a : Addr} (I : Inv (X.suite a (X.pn ++ pins)) [] σ H s) (ok : X.Ok) : Inv X pins σ H s :=
  ⟨ok, I.os, I.bare, I.base, I.loc, I.cell, I.free, I.freeC, fun p hp => I.pin p (by rw [List.append_nil]; exact hp), I.hok, I.len⟩
end
/-- what the clause «except c as n» wishes of an error: n's slot is i; the error stays in the heap -/
def wKp (K : PySem.W.Frag) (c : Value) (i : Nat) (ts : TS) (Wout : WX) (D : Ends) : WX := fun cls d σ H =>
  ∃ b, PySem.W.exmOne K cls c = some b ∧
    (b = true → ∀ a, H a = none → ts { nx := fun τ H' => D.nx (τ.set i none) H', rt := D.rt, bk := fun τ H' => D.bk (τ.set i none) H', ct := fun τ H' => D.ct (τ.set i none) H' } (σ.set i (some (.ref a))) (upd H a (exK a cls d))) ∧
    (b = false → Wout cls d σ H)
/-- try: body / except c as n: suite -/
def tTryK (K : PySem.W.Frag) (c : Value) (i : Nat) (tb : WX → TS) (ts : TS) (Wout : WX) : TS := fun D σ H => tb (wKp K c i ts Wout D) D σ H
/-- try: body / except c: suite -/
def tTryO (K : PySem.W.Frag) (c : Value) (tb : WX → TS) (ts : TS) (Wout : WX) : TS := fun D σ H => tb (wOnly K c (fun _ _ _ => ts) Wout D) D σ H
section
variable {X : Cx} {x n : Str} {c : Value} {i : Nat} {body suite : List Stmt} {b₀ : Stmt} {np pos pos' : Pos} {tb : WX → TS} {ts : TS} {Wout : WX}
theorem ps_tryK (hex : X.ex = []) (hs : X.stack = X.env :: X.outer) (hf : X.env.frame = some X.env.locals) (hN : X.N.Nodup) (hi : X.N[i]? = some n) (hln : X.env.kindOf n = some .local) (hc : Names X x c) (tk : Takes X Wout)
    (inBody : ∀ (W : WX) (pn : List (Addr × Obj)) (xe : Value → Shared → Prop), Takes (X.tr pn xe) W → PassesOwn (model X.prog X.w) X.A X.env xe → PSs (X.tr pn xe) body (tb W))
    (inSuite : ∀ (a : Addr) (pn : List (Addr × Obj)), PSs (X.suite a pn) (b₀ :: suite) ts) :
    PS X (.Try body [.ExceptHandler (some (.Name x np)) (some n) (b₀ :: suite) pos'] [] [] pos) (tTryK X.K c i tb ts Wout) := by
  refine ⟨fun pins s σ H D I holds => ?_⟩
  have okX := I.ok
  have frames : X.A.frames = some (X.env :: X.outer) := by rw [okX.frames, hs]
  refine wpAny_Try_except ?_
  have BB := (inBody (wKp X.K c i ts Wout D) (X.pn ++ pins) (fun e s₁ => wpAny (model X.prog X.w) X.A (noteFrame e X.env) (fun _ s₂ => wpAny (model X.prog X.w) X.A (setFlight e none)
    (fun _ s₃ => wpAny (model X.prog X.w) X.A (handleBy e X.env [.ExceptHandler (some (.Name x np)) (some n) (b₀ :: suite) pos']) (SP X pins D) X.xe s₃) X.xe s₂) X.xe s₁) ?takes PassesOwn.looking).run [] s σ H D (I.toTry _) holds
  case takes =>
    rintro u s' ⟨a, B, sI, pins', σ1, H1, cls, d, rfl, J', ground, up, sky, fresh, os, bare, b, yes, hyes, hno⟩
    have J : Inv X pins σ1 H1 sI := J'.ofTry okX
    have sky1 : Sky B (X.env :: X.outer) a (Zc cls d) X.env.locals s'.heap := by
      rw [← hs]
      exact sky
    show wpAny (model X.prog X.w) X.A (noteFrame (.ref a) X.env) _ _ _
    refine Sky.land Zc.steady frames hf sky1 fun hp3 fl3 up3 => ?_
    have J3 : Inv X pins σ1 H1 { s' with heap := hp3 } := J.landed ground fl3.1 (up.trans up3) os bare
    obtain ⟨o3, vs3, at3, z3, d3⟩ := fl3.there
    have noFrame : ∀ {hp : Heap} {o : Obj} {vs : Array Value}, hp.FunFrames B (X.env :: X.outer) → hp.get? a = some o → o.data = .fields vs → a ∉ frs (X.env :: X.outer) := by
      intro hp o vs ff e dd m
      obtain ⟨_, o', e', hnf⟩ := ff.mem m
      obtain rfl : o = o' := Option.some.inj (e.symm.trans e')
      exact hnf _ dd
    have n0 := noFrame fl3.2.2.1 at3 d3
    have nL : a ≠ X.env.locals := fun z => n0 (List.mem_filterMap.mpr ⟨X.env, List.mem_cons_self, by rw [hf, z]⟩)
    have nF : a ∉ X.fs := by
      intro m
      obtain ⟨e, me, q⟩ := List.mem_filterMap.mp m
      exact n0 (List.mem_filterMap.mpr ⟨e, List.mem_cons_of_mem _ me, q⟩)
    -- a is new to the def: neither the ground nor the state ahead has it
    have nI : sI.heap.get? a = none := by
      rcases e : sI.heap.get? a with _ | o
      · rfl
      · have y := ground a o e (by rw [hs]; exact n0)
        rw [fl3.2.1] at y
        cases y
    have S3 := J3.suite at3 d3 fresh nL nF
    have LT : PySem.W.Looks (model X.prog X.w) hp3 (typeOf (.ref a)) cls := fun A Q E s k q => wpAny_typeOf_ref (k _ _ at3) (by rw [z3.1]; exact q)
    have LM := PySem.W.exm_one (M := model X.prog X.w) J3.kIn LT yes
    have test : ∀ {Q : Value → Shared → Prop} {E : Value → Shared → Prop}, Q c { s' with heap := hp3 } → wpAny (model X.prog X.w) (X.A.mark (some (.ref a))) (eval (.Name x np) X.env) Q E { s' with heap := hp3 } := by
      intro Q E q
      obtain ⟨gl, dbg, m | ⟨m, v, nn⟩⟩ := hc
      · exact ld_glob (X := X.suite a ((a, o3) :: (X.pn ++ pins))) S3 gl m q dbg
      · exact ld_blt (X := X.suite a ((a, o3) :: (X.pn ++ pins))) S3 gl m v q nn dbg
    refine wpAny_handleBy_cons (codeAny_handlers_test ?_) (by intro q; cases q)
    refine test (LM.here ?_)
    match b, yes, hyes, hno with
    | true, yes, hyes, _ =>
      refine codeAny_handlers_suite_as ?_
      refine HandSPX.lands_againZ fl3 fun hp4 fl4 up4 => ?_
      have J4 : Inv X pins σ1 H1 { s' with heap := hp4 } := J.landed ground fl4.1 ((up.trans up3).trans up4) os bare
      obtain ⟨o4, vs4, at4, z4, d4⟩ := fl4.there
      have old : X.s_0.heap.get? a = none := by
        rcases e : X.s_0.heap.get? a with _ | o
        · rfl
        · obtain ⟨o', y⟩ := J.base.there a o e (by rw [hex]; exact List.not_mem_nil)
          rw [nI] at y
          cases y
      have K4 : Inv X pins σ1 (upd H1 a (exK a cls d)) { s' with heap := hp4 } := inv_adopt J4 at4 z4 d4 fresh old nL fun p hp z => by
        have y := (J.pin p hp).1
        rw [z, nI] at y
        cases y
      refine store_ok (X := X.suite a (X.pn ++ pins)) (v := .ref a) (inv_inSuite K4 a) hN hi (.inl hln) rfl (fun s5 S5 => ?_) (.inr hln)
      refine wpAny_mono ((inSuite a (X.pn ++ pins)).run [] s5 _ _ _ S5 (hyes rfl a fresh)) (fun f s6 q => ?_) fun _ _ z => False.elim z
      have ending : ∀ {σ6 : L2.St} {H6 : Hp} {Q : Shared → Prop}, Inv (X.suite a (X.pn ++ pins)) [] σ6 H6 s6 → (∀ s7, Inv X pins (σ6.set i none) H6 s7 → Q s7) →
          wpAny (model X.prog X.w) X.A (do bindName X.env n .none; unbindBehindTheSuite X.env n pos') (fun _ s7 => Q s7) X.xe s6 := fun S6 hq => gone_ok (inv_ofSuite S6 okX) hN hi hln hq
      match f, q with
      | .next, ⟨_, _, S6, q6⟩ => exact ending S6 fun s7 J7 => ⟨_, _, J7, q6⟩
      | .brk, ⟨_, _, S6, q6⟩ => exact ending S6 fun s7 J7 => ⟨_, _, J7, q6⟩
      | .cont, ⟨_, _, S6, q6⟩ => exact ending S6 fun s7 J7 => ⟨_, _, J7, q6⟩
      | .ret _, ⟨_, _, _, S6, r6, q6⟩ => exact ending S6 fun s7 J7 => ⟨_, _, _, J7, r6, q6⟩
    | false, yes, _, hno =>
      show wpAny _ X.A (handleBy (.ref a) X.env []) _ _ _
      refine wpAny_handleBy_nil ?_
      obtain ⟨k1, k2, k3, oe, vs, T, oT, tt, he, hz, hd, h1, hr⟩ := id fl3
      unfold PySem.passOn
      refine wpAny_bind (wpAny_field he hd h1 ?_)
      rw [if_neg (show ¬ ((Value.ref T == Value.none) = true) from by simp)]
      have last : wpAny (model X.prog X.w) X.A (setFlight (.ref a) X.env.frame) (fun _ s4 => wpAny (model X.prog X.w) X.A (throw (.ref a) : Sem Flow) (SP X pins D) X.xe s4) X.xe { s' with heap := hp3 } := by
        rw [hf]
        exact HandSPX.setFlight_upZ fl3 fun h4 hh4 up4 => wpAny_throw (tk _ _ ⟨a, B, sI, pins, σ1, H1, cls, d, rfl, J, ground, (up.trans up3).trans up4, .inr (.inr (by rw [hs]; exact hh4)), fresh, os, bare, hno rfl⟩)
      first
        | exact wpAny_bind (wpAny_pure (wpAny_bind last))
        | exact wpAny_bind last
  refine wpAny_mono BB (fun f s1 q => ?_) fun _ _ z => z
  match f, q with
  | .next, ⟨_, _, J, q⟩ => exact wpAny_execs_nil ⟨_, _, J.ofTry okX, q⟩
  | .brk, ⟨_, _, J, q⟩ => exact ⟨_, _, J.ofTry okX, q⟩
  | .cont, ⟨_, _, J, q⟩ => exact ⟨_, _, J.ofTry okX, q⟩
  | .ret _, ⟨_, _, _, J, r, q⟩ => exact ⟨_, _, _, J.ofTry okX, r, q⟩
end

/-! ### what a kept error tells -/
theorem tyB_ok {K : PySem.W.Frag} {C : Addr} (h : tyB K C = true) : PySem.W.findIn K (.ref C) "__class__" = some (some (.builtin "object.__class__")) ∧ PySem.W.specialIn K (.builtin "object.__class__") "__get__" = some (some (.builtin "getset_descriptor.__get__")) ∧
    PySem.W.takesIn K (.builtin "object.__class__") = some true ∧ PySem.W.mroIn K C (.type "object") = some true := by
  obtain ⟨t1, h⟩ := He.ba h
  obtain ⟨t2, h⟩ := He.ba h
  obtain ⟨t3, t4⟩ := He.ba h
  exact ⟨He.eqO_ok t1, He.eqO_ok t2, of_decide_eq_true t3, of_decide_eq_true t4⟩
/-- an error's class -/
structure ErrC (K : PySem.W.Frag) (x : Str) : Prop where
  ga : PySem.W.findIn K (.ref (He.ga K x)) "__getattribute__" = some (some (.builtin "BaseException.__getattribute__"))
  gg : PySem.W.findIn K (.ref (He.ga K x)) "__getattr__" = some none
  be : PySem.W.subIn K (.ref (He.ga K x)) (.type "BaseException") = some true
  hd : PySem.W.hasDictIn K (He.ga K x) = true
  ty : tyB K (He.ga K x) = true
  tt : PySem.W.typeIn K (.ref (He.ga K x)) = some (.type "type")
  kp : PySem.W.keepIn K (.ref (He.ga K x)) = true
  ic : PySem.W.isClsIn K (He.ga K x) = true
theorem errB_ok {K : PySem.W.Frag} {x : Str} (h : errB K x = true) : ErrC K x := by
  obtain ⟨h1, h⟩ := He.ba h
  obtain ⟨h2, h⟩ := He.ba h
  obtain ⟨h3, h⟩ := He.ba h
  obtain ⟨h4, h⟩ := He.ba h
  obtain ⟨h5, h⟩ := He.ba h
  obtain ⟨h6, h⟩ := He.ba h
  obtain ⟨h7, h8⟩ := He.ba h
  exact ⟨of_decide_eq_true h1, of_decide_eq_true h2, of_decide_eq_true h3, h4, h5, of_decide_eq_true h6, h7, h8⟩
section
variable {K : PySem.W.Frag} {L : List Str} {x y : Str}
theorem ErrsOne (h : exErrs L K = true) (m : x ∈ L) : (errB K x && (decide (PySem.W.kitOne K (.ref (He.ga K x)) (.type "ValueError") = some true) && ((("StayError" : Str) :: L).all fun y => (He.Fa.exm x y (subE x y)).ok K && isiB K x y (subE x y)))) = true := List.all_eq_true.mp h x m
theorem Errs.err (h : exErrs L K = true) (m : x ∈ L) : errB K x = true := (He.ba (ErrsOne h m)).1
theorem Errs.val (h : exErrs L K = true) (m : x ∈ L) : PySem.W.kitOne K (.ref (He.ga K x)) (.type "ValueError") = some true := of_decide_eq_true (He.ba (He.ba (ErrsOne h m)).2).1
theorem Errs.two (h : exErrs L K = true) (m : x ∈ L) (n : y ∈ (("StayError" : Str) :: L)) : PySem.W.exmOne K (.ref (He.ga K x)) (.ref (He.ga K y)) = some (subE x y) ∧ PySem.W.kitOne K (.ref (He.ga K x)) (.ref (He.ga K y)) = some (subE x y) := by
  have z := List.all_eq_true.mp (He.ba (He.ba (ErrsOne h m)).2).2 y n
  exact ⟨He.exm_ok (He.ba z).1, of_decide_eq_true (He.ba z).2⟩
end
/-- at a: a kept error of the class x, its fields fs -/
def ExAt (K : PySem.W.Frag) (H : Hp) (a : Addr) (x : Str) (fs : List (Str × V)) : Prop := errB K x = true ∧
  ((fs = [] ∧ H a = some (exK a (.ref (He.ga K x)) none)) ∨ ∃ dd, H a = some (exK a (.ref (He.ga K x)) (some dd)) ∧ H dd = some (.xd fs))
theorem ExAt.same {K : PySem.W.Frag} {H H' : Hp} {a : Addr} {x : Str} {fs : List (Str × V)} (e : ExAt K H a x fs) (s : Same H H') : ExAt K H' a x fs :=
  ⟨e.1, e.2.imp (fun ⟨h1, h2⟩ => ⟨h1, s _ _ h2⟩) fun ⟨dd, h1, h2⟩ => ⟨dd, s _ _ h1, s _ _ h2⟩⟩
theorem ExAt.inst {K : PySem.W.Frag} {P : Program} {w : World} {H : Hp} {h : Heap} {a : Addr} {x : Str} {fs : List (Str × V)} (e : ExAt K H a x fs) (ok : HOk P w H h) : ∃ oe od, PySem.W.InstAt h a oe (He.ga K x) od := by
  obtain ⟨-, ⟨-, e⟩ | ⟨dd, e, e2⟩⟩ := e
  · obtain ⟨oe, at_, hz, vs, hv⟩ := exK_get ok e
    refine ⟨oe, none, at_, hz.1, by unfold PySem.W.notCls; rw [hv] <;> rfl, ?_⟩
    rw [hz.2]
    trivial
  · obtain ⟨oe, at_, hz, vs, hv⟩ := exK_get ok e
    obtain ⟨od, o2⟩ := L2.objOk_get (ok dd _ e2)
    refine ⟨oe, some od, at_, hz.1, by unfold PySem.W.notCls; rw [hv] <;> rfl, ?_⟩
    rw [hz.2]
    exact o2
/-- isinstance(e, c), e an error that is kept -/
def rIsK (K : PySem.W.Frag) : List V → Hp → VK → Prop := fun xs H Q => ∃ (a : Addr) (x : Str) (fs : List (Str × V)) (c : V) (cv : Value) (b : Bool), xs = [.ref a, c] ∧ ExAt K H a x fs ∧ (∀ u, RelV c u → u = cv) ∧
  PySem.W.kitOne K (.ref (He.ga K x)) cv = some b ∧ Q (.bl b) H
theorem call_isK {X : Cx} : CallR X (.builtin "isinstance") (rIsK X.K) := by
  rintro pins s σ H vs us Q I r ⟨a, x, fs, c, cv, b, rfl, at_, hcv, e, q⟩
  match r with
  | .cons (b := u1) r1 (.cons r2 .nil) =>
    obtain rfl : u1 = Value.ref a := r1
    have z := hcv _ r2
    subst z
    obtain ⟨oe, od, J⟩ := at_.inst I.hok
    have E := errB_ok at_.1
    obtain ⟨t1, t2, t3, t4⟩ := tyB_ok E.ty
    exact PySem.W.kia_one (PySem.W.kitx_exc (od := od) E.ic E.ga E.gg E.be t1 t2 t3 t4) I.kIn J e (fun z => nomatch z) fun tk => ⟨.bl b, H, I.kept (t' := tk) fun _ _ z => z, rfl, q⟩
/-- e.f, e an error that is kept -/
def tXat (K : PySem.W.Frag) (te : TE) (f : Str) : TE := fun σ H Q => te σ H fun v H1 => ∃ (a : Addr) (x : Str) (fs : List (Str × V)) (y : V), v = .ref a ∧ ExAt K H1 a x fs ∧ PySem.W.findIn K (.ref (He.ga K x)) f = some none ∧ fs.lookup f = some y ∧ Q y H1
theorem pe_xat {X : Cx} {e : Expr} {te : TE} {f : Str} {pos : Pos} (he : PE X e te) (hb : attributeBase e f X.env (eval e X.env) = eval e X.env := by rfl) : PE X (.Attribute e f pos) (tXat X.K te f) := by
  refine ⟨fun pins s σ H Q I h => ?_⟩
  refine attr_of hb (thn (he.run pins s σ H _ I h) fun u s1 hh => ?_)
  obtain ⟨v, H1, I1, rv, a, x, fs, y, rfl, at_, no, l, q⟩ := hh
  obtain rfl : u = Value.ref a := rv
  have E := errB_ok at_.1
  rcases at_.2 with ⟨rfl, -⟩ | ⟨dd, e1, e2⟩
  · cases l
  obtain ⟨oe, h1, hz, vs, hd⟩ := exK_get I1.hok e1
  have hx : ObjOk X.prog X.w H1 s1.heap dd (.xd fs) := I1.hok dd _ e2
  obtain ⟨mA, hns, hr⟩ := hx
  obtain ⟨od, ho, hl⟩ := lookIn_ns hns
  obtain ⟨u, hu, ru⟩ := RelO.some_of (v := y) (o := mA f) (by rw [← l]; exact hr f)
  have J : PySem.W.InstAt s1.heap a oe (He.ga X.K x) (some od) := ⟨h1, hz.1, by unfold PySem.W.notCls; rw [hd] <;> rfl, by rw [hz.2]; exact ho⟩
  exact HandSPX.exc_get I1.kIn J E.ga E.gg E.be (PySem.W.findObj_own E.hd no rfl (by rw [hl, hu])) (handed_of ru) ⟨y, H1, I1.tok _, ru, q⟩
/-! ### what may let errors out -/
abbrev XW (E : XK) : WX := fun cls d _ H => E cls d H
section
variable {X : Cx} {CX : CXT} {k j : Nat} {f C : Addr} {fd : FuncData} {ps : List Str} {sp : Sp} {dvs : List V} {ds : List Value} {E : L2.St → XK} {W : WX} {x m : Str} {p pos apos : Pos} {e o : Expr} {es : List Expr} {ta : TE} {t : TA} {pins : List (Addr × Obj)} {σ : L2.St} {H : Hp} {s : Shared} {Q : VK} {us : List Value} {vs : List V}
theorem x_runs (F : FnG X.prog X.w X.K X.mg X.base CX k f fd ps sp) (room : RoomG k X.A) (bi : Binds X.K fd ps ds) (dv : Vals dvs ds) (pass : PassesAt CX X σ (E σ)) (I : Inv X pins σ H s) (rv : Vals vs us) (pr : sp (vs ++ dvs) H Q (E σ)) :
    wpAny (model X.prog X.w) X.A (call (.ref f) us) (EP X pins σ Q) X.xe s := by
  have whole := rv.append dv
  have n : (us ++ ds).length = ps.length := whole.length.symm.trans (F.len _ _ _ _ pr)
  refine wpAny_call (codeAny_mono (F.run _ _ _ _ _ _ _ _ _ room I.env0 (bi _ _ I.kIn n) whole pr) ?_)
  intro end_ s' h
  match end_, h with
  | .error _, h => exact pass _ _ _ _ _ I h
  | .ok (.ret _), h => exact I.after h
theorem x_makes (M : Mk X.K C f) (F : FnG X.prog X.w X.K X.mg X.base CX k f fd ps sp) (room : RoomG (k + 1) X.A) (bi : Binds X.K fd ps ds) (dv : Vals dvs ds) (pass : PassesAt CX X σ (E σ)) (I : Inv X pins σ H s) (rv : Vals vs us)
    (pr : ∀ x dx, H x = none → H dx = none → dx ≠ x → sp (.ref x :: (vs ++ dvs)) (upd (upd H dx (.own x)) x (.ins C dx [])) (fun v H2 => v = .non ∧ Q (.ref x) H2) (E σ)) :
    wpAny (model X.prog X.w) X.A (call (.ref C) us) (EP X pins σ Q) X.xe s := by
  have J := Inv.made (C := C) I
  have z := pr _ _ (I.hok.fresh (Nat.le_succ s.heap.objs.size)) (I.hok.fresh (Nat.le_refl s.heap.objs.size)) (Nat.ne_of_lt (Nat.lt_succ_self _))
  have whole : Vals (V.ref (s.heap.objs.size + 1) :: (vs ++ dvs)) (Value.ref (s.heap.objs.size + 1) :: (us ++ ds)) := .cons rfl (rv.append dv)
  have n : ((Value.ref (s.heap.objs.size + 1) :: us) ++ ds).length = ps.length := whole.length.symm.trans (F.len _ _ _ _ z)
  refine wpAny_call (make_map (f := f) I.kIn M.makes M.init (beq_iff_eq.mp M.fn) (codeAny_mono (F.run _ _ _ _ _ _ _ _ _ (room.make C us) (J.env0.make C us []) (bi _ _ J.kIn n) whole z) ?_))
  intro end_ s' h
  match end_, h with
  | .error _, h => exact pass _ _ _ _ _ J h
  | .ok (.ret _), h =>
    obtain ⟨v, H', J', rv', rfl, q'⟩ := J.after h
    exact ⟨rv', V.ref (s.heap.objs.size + 1), H', J', rfl, q'⟩
/-- a call, a class that is made, a method, that may let an error out -/
def tCallX (sp : Sp) (dvs : List V) (W : WX) (t : TA) : TE := fun σ H Q => t σ H fun vs H1 => sp (vs ++ dvs) H1 Q (WE W σ)
def tMakeX (C : Addr) (sp : Sp) (dvs : List V) (W : WX) (t : TA) : TE := fun σ H Q => t σ H fun vs H1 => ∀ x dx, H1 x = none → H1 dx = none → dx ≠ x → sp (.ref x :: (vs ++ dvs)) (upd (upd H1 dx (.own x)) x (.ins C dx [])) (fun v H2 => v = .non ∧ Q (.ref x) H2) (WE W σ)
def tMethX (C : Addr) (m : Str) (sp : Sp) (dvs : List V) (W : WX) (ta : TE) (t : TA) : TE := fun σ H Q => ta σ H fun x H1 => ∃ a dx fs, x = .ref a ∧ H1 a = some (.ins C dx fs) ∧ fs.lookup m = none ∧ t σ H1 fun vs H2 => sp (.ref a :: (vs ++ dvs)) H2 Q (WE W σ)
theorem pe_cx (c : Cal X.prog X.w X.K X.mg X.base (L2.CX X.prog X.w) k x sp dvs) (hr : RoomG j X.A) (hk : k ≤ j) (hg : Gl X x) (tk : Takes X W) (ha : PA X (e :: es) t)
    (hdb : (x == ("__debug__" : Str)) = false := by decide) (he : starEach (e :: es) X.env = (false, eval e X.env) :: starEach es X.env := by rfl) (hpl : (backTo pos (starEach es X.env)).any (·.1) = false := by rfl) :
    PE X (.Call (.Name x p) (e :: es) [] pos) (tCallX sp dvs W t) := by
  obtain ⟨f, fd, ps, ds, F, hm, kp, b, d⟩ := c.ex
  exact ⟨fun pins s σ H Q I h => wpAny_Call_Name_kw (ld_glob I hg hm (PySem.W.callWith_K (h₀ := X.base) I.ok.mod.kin kp (thn (ha.run pos pins s σ H _ I h) fun _ _ ⟨_, _, I1, r, q⟩ => ⟨I1.kIn, x_runs (E := WE W) F (hr.mono hk) b d (passAt tk σ) I1 r q⟩) he hpl) hdb)⟩
theorem pe_kx (c : Mak X.prog X.w X.K X.mg X.base (L2.CX X.prog X.w) k x C sp dvs) (hr : RoomG j X.A) (hk : k + 1 ≤ j) (hg : Gl X x) (tk : Takes X W) (ha : PA X (e :: es) t)
    (hdb : (x == ("__debug__" : Str)) = false := by decide) (he : starEach (e :: es) X.env = (false, eval e X.env) :: starEach es X.env := by rfl) (hpl : (backTo pos (starEach es X.env)).any (·.1) = false := by rfl) :
    PE X (.Call (.Name x p) (e :: es) [] pos) (tMakeX C sp dvs W t) := by
  obtain ⟨f, fd, ps, ds, M, F, hm, b, d⟩ := c.ex
  exact ⟨fun pins s σ H Q I h => wpAny_Call_Name_kw (ld_glob I hg hm (PySem.W.callWith_K (h₀ := X.base) I.ok.mod.kin M.kp (thn (ha.run pos pins s σ H _ I h) fun _ _ ⟨_, _, I1, r, q⟩ => ⟨I1.kIn, x_makes (E := WE W) M F (hr.mono hk) b d (passAt tk σ) I1 r q⟩) he hpl) hdb)⟩
theorem pe_mx {pl : Sem Bool} (c : Met X.prog X.w X.K X.mg X.base (L2.CX X.prog X.w) k C m sp dvs) (hr : RoomG j X.A) (hk : k ≤ j) (tk : Takes X W) (he : PE X o ta) (ha : PA X (e :: es) t)
    (hst : starEach (e :: es) X.env = (false, eval e X.env) :: starEach es X.env := by rfl) (hpl : (backTo pos (starEach es X.env)).any (·.1) = false := by rfl)
    (ht : eval (.Call (.Attribute o m apos) (e :: es) [] pos) X.env = (do
      let w ← eval o X.env
      standAt apos.atName
      let (g, first) ← holding [w] (getMethod w m pl)
      callWith pos g first (backTo pos (starEach (e :: es) X.env)) (backToKw pos (keywordEach [] X.env))) := by rfl) :
    PE X (.Call (.Attribute o m apos) (e :: es) [] pos) (tMethX C m sp dvs W ta t) := by
  obtain ⟨f, fd, ps, ds, cl, me, F, b, d⟩ := c.ex
  refine ⟨fun pins s σ H Q I h => PySem.W.methodCall_KW (pl := pl) (thn (he.run pins s σ H _ I h) ?_) ht⟩
  rintro u s1 ⟨_, H1, I1, rx, a, dx, fs, rfl, at_, no, q⟩
  obtain rfl : u = Value.ref a := rx
  exact getmeth_ok I1 at_ cl me no (PySem.W.callWith_K (first := [.ref a]) (h₀ := X.base) I.ok.mod.kin me.kp (thn (ha.run pos pins s1 σ H1 _ I1 q) fun us _ ⟨vs, _, I2, r, q2⟩ => ⟨I2.kIn, x_runs (E := WE W) (us := .ref a :: us) (vs := .ref a :: vs) F (hr.mono hk) b d (passAt tk σ) I2 (.cons rfl r) q2⟩) hst hpl)
theorem pe_mx0 {pl : Sem Bool} (c : Met X.prog X.w X.K X.mg X.base (L2.CX X.prog X.w) k C m sp dvs) (hr : RoomG j X.A) (hk : k ≤ j) (tk : Takes X W) (he : PE X o ta)
    (ht : eval (.Call (.Attribute o m apos) [] [] pos) X.env = (do
      let w ← eval o X.env
      standAt apos.atName
      let (g, first) ← holding [w] (getMethod w m pl)
      callWith pos g first (backTo pos (starEach [] X.env)) (backToKw pos (keywordEach [] X.env))) := by rfl) :
    PE X (.Call (.Attribute o m apos) [] [] pos) (tMethX C m sp dvs W ta tNil) := by
  obtain ⟨f, fd, ps, ds, cl, me, F, b, d⟩ := c.ex
  refine ⟨fun pins s σ H Q I h => PySem.W.methodCall_KW (pl := pl) (thn (he.run pins s σ H _ I h) ?_) ht⟩
  rintro u s1 ⟨_, H1, I1, rx, a, dx, fs, rfl, at_, no, q⟩
  obtain rfl : u = Value.ref a := rx
  exact getmeth_ok I1 at_ cl me no (PySem.W.callWith_K0 (first := [.ref a]) I1.kIn me.kp (x_runs (E := WE W) (us := [.ref a]) (vs := [.ref a]) F (hr.mono hk) b d (passAt tk σ) I1 (.cons rfl .nil) q))
/-- raise x('..'), x without own __init__ -/
def tRaiseB (K : PySem.W.Frag) (x : Str) (W : WX) : TS := fun _ σ H => exBare x K = true ∧ W (.ref (He.ga K x)) none σ H
theorem ps_raiseB {z : Str} {i : Nat} {p2 pos' : Pos} (hc : X.calm = true) (tk : Takes X W) (gC : X.mg x = some (.ref (He.ga X.K x))) (hg : Gl X x) (hdb : (x == ("__debug__" : Str)) = false := by decide) :
    PS X (.Raise (some (.Call (.Name x p) [.Constant (.str z) i p2] [] pos)) none pos') (tRaiseB X.K x W) := ⟨fun pins s σ H D I h => by
  have E := errB_ok (He.ba h.1).2
  exact (ps_raise hc tk (pmk_own F.excBase_ValueError (He.ba h.1).1 gC E.kp (raises_own E.be E.tt) hg hdb)).run pins s σ H D I h.2⟩
end

/-! ### errors with an own __init__ -/
theorem oexB_ok {K : PySem.W.Frag} {C : Addr} (h : oexB K C = true) : ∃ nm q N bs bm sn sub ab col dd k0 k1 k2 k3 k5, K.lookup C = some (excClassObj nm q C N bs bm true sn sub ab col dd k0 k1 k2 k3 k5 "ValueError.__new__") ∧ PySem.HandSPX.refsVE bm = true := by
  unfold oexB at h
  split at h
  · rename_i dd cd sl ho
    split at h
    · rename_i C' bm k0 k1 k2 k3 n k5 hm hs
      simp only [Bool.and_eq_true, beq_iff_eq, Bool.not_eq_true'] at h
      obtain ⟨rfl, rfl, h3, h4, h5⟩ := h
      obtain ⟨nm, bs, mro, ns, qn, hd, sn, sub, ab, col, del⟩ := cd
      dsimp only at hm h3 h4
      subst hm h3 h4
      obtain rfl : sl = #[k0, k1, k2, k3, some (.builtin "ValueError.__new__"), k5] := by
        obtain ⟨l⟩ := sl
        simp only at hs
        rw [hs]
      exact ⟨nm, qn, ns, bs, bm, sn, sub, ab, col, dd, k0, k1, k2, k3, k5, ho, h5⟩
    · cases h
  · cases h
theorem exInit_ok {x f : Str} {K : PySem.W.Frag} (h : exInit x f K = true) : OexC K (He.ga K x) ∧ PySem.W.findIn K (.ref (He.ga K x)) f = some none ∧ errB K x = true := by
  replace h := (He.ba h).2
  obtain ⟨h1, h⟩ := He.ba h
  obtain ⟨h2, h⟩ := He.ba h
  obtain ⟨h3, h4⟩ := He.ba h
  have E := errB_ok h4
  exact ⟨⟨oexB_ok h1, of_decide_eq_true h2, E.be, E.tt, E.kp⟩, of_decide_eq_true h3, h4⟩
/-- StayError.__init__(self, ..) -/
def tStI (K : PySem.W.Frag) (ta : TA) : TE := fun σ H Q => exStay K = true ∧ ta σ H fun vs H1 => ∃ (a C : Addr) (ws : List V), vs = .ref a :: ws ∧ ws.length ≤ 1000 ∧ OexC K C ∧ H1 a = some (exo a C none) ∧ Q .non H1
section
variable {X : Cx} {W : WX} {p p1 p2 pos : Pos} {e : Expr} {es : List Expr} {ta : TA}
theorem pe_stinit {pl : Sem Bool} (hg : Gl X "StayError") (hm : X.mg "StayError" = some (.ref (He.ga X.K "StayError"))) (ha : PA X (e :: es) ta)
    (hc : eval (.Call (.Attribute (.Name "StayError" p1) "__init__" p2) (e :: es) [] pos) X.env = (do
      let w ← eval (.Name "StayError" p1) X.env
      standAt p2.atName
      let (g, first) ← holding [w] (getMethod w "__init__" pl)
      callWith pos g first (backTo pos (starEach (e :: es) X.env)) (backToKw pos (keywordEach [] X.env))) := by rfl)
    (he : starEach (e :: es) X.env = (false, eval e X.env) :: starEach es X.env := by rfl) (hpl : (backTo pos (starEach es X.env)).any (·.1) = false := by rfl) :
    PE X (.Call (.Attribute (.Name "StayError" p1) "__init__" p2) (e :: es) [] pos) (tStI X.K ta) := by
  refine ⟨fun pins s σ H Q I h => ?_⟩
  obtain ⟨cx, h⟩ := h
  obtain ⟨c1, c2⟩ := He.ba cx
  obtain ⟨c2, c3⟩ := He.ba c2
  have fc : PySem.W.findCls X.K (.ref (He.ga X.K "StayError")) (.type "type") "__init__" = some (.val (.builtin "ValueError.__init__")) := by
    revert c3
    cases e : PySem.W.findCls X.K (.ref (He.ga X.K "StayError")) (.type "type") "__init__" with
    | none => intro c; cases c
    | some r =>
      intro c
      split at c
      · rename_i n h
        cases h
        rw [of_decide_eq_true c]
      · cases c
  refine PySem.W.methodCall_KW (ld_glob I hg hm ?_ (by decide)) hc
  refine PySem.W.method_cls I.kIn (of_decide_eq_true c2) (PySem.W.cls_value I.kIn c1 fc rfl ?_)
  show wpAny _ _ (callWith pos (Value.builtin "ValueError.__init__") [] (backTo pos (starEach (e :: es) X.env)) []) _ _ _
  refine PyProof.Rows.callWith_method1 (thn (ha.run pos pins _ σ H _ (I.tok _) h) fun us s1 ⟨vs, H1, I1, r1, a, C, ws, ev, hl, T, ea, q⟩ => ?_) he hpl
  subst ev
  match r1 with
  | .cons (b := u0) ra rw' =>
    obtain rfl : u0 = Value.ref a := ra
    exact oinit_ok T I1 ea (by
      rw [← Paired.length rw', sizeLine_eq]
      omega) fun s' J => ⟨.non, H1, J, rfl, q⟩
end
/-- what the __init__ of an error keeps: the field f -/
def sp_xinit (K : PySem.W.Frag) (x f : Str) : Sp := Sp2 fun v y H Q E => exInit x f K = true ∧ ∃ a, v = .ref a ∧ H a = some (exo a (He.ga K x) none) ∧ ∀ d, H d = none → d ≠ a → Q .non (upd (upd H d (exd d [(f, y)])) a (exo a (He.ga K x) (some d)))
def t_xinit (K : PySem.W.Frag) (f z : Str) : TS := tSeq (tDrop (tStI K (tCons (tVar 0) (tCons (tC (.str z)) tNil)))) (tOst K f (tVar 0) (tVar 1))
theorem pure_xinit {K : PySem.W.Frag} {x f z : Str} {v y : V} {H : Hp} {Q : VK} {E : XK} (h : sp_xinit K x f [v, y] H Q E) : t_xinit K f z { nx := fun _ H' => Q .non H', rt := Q } [some v, some y] H := by
  obtain ⟨v, y, e, c, a, rfl, ha, q⟩ := h
  cases e
  obtain ⟨c1, c2, c3⟩ := exInit_ok c
  exact ⟨(He.ba c).1, _, rfl, a, _, _, rfl, (show 1 ≤ 1000 by decide), c1, ha, _, rfl, _, rfl, a, _, rfl, c1, c2, .inl ⟨ha, fun d h1 h2 => q d h1 h2⟩⟩
/-- the __init__ of an error's class -/
structure XIn (P : Program) (w : World) (K : PySem.W.Frag) (mg : Str → Option Value) (base : Heap) (k : Nat) (x f : Str) : Prop where
  ex : ∃ (fI : Addr) (fd : FuncData) (ps : List Str), FnOk P w K mg base CX0 k fI fd ps (sp_xinit K x f) ∧ mg x = some (.ref (He.ga K x)) ∧ Binds K fd ps [] ∧ PySem.W.findIn K (.ref (He.ga K x)) "__init__" = some (some (.ref fI)) ∧ PySem.W.typeIn K (.ref fI) = some (.type "function")
/-- raise x(e), x with its own __init__ -/
def rRaiseI (K : PySem.W.Frag) (x f : Str) (W : WX) (σ : L2.St) (y : V) (H1 : Hp) : Prop := [y].length ≤ 1000 ∧ ∀ a, H1 a = none → sp_xinit K x f (.ref a :: ([y] ++ [])) (upd H1 a (exo a (He.ga K x) none))
  (fun v H2 => v = .non ∧ ∃ (d : Addr) (fs : List (Str × V)), H2 a = some (exo a (He.ga K x) (some d)) ∧ H2 d = some (exd d fs) ∧ H1 d = none ∧ W (.ref (He.ga K x)) (some d) σ (upd (L2.del H2 a) d (.xd fs))) (fun _ _ _ => False)
def tRaiseI (K : PySem.W.Frag) (x f : Str) (W : WX) (te : TE) : TS := fun _ σ H => exInit x f K = true ∧ te σ H fun y H1 => rRaiseI K x f W σ y H1
theorem del_put {H : Hp} {a d : Addr} {o1 o2 o3 o4 : HO} (ha : H a = none) (hd : d ≠ a) : upd (L2.del (upd (upd (upd H a o1) d o2) a o3) a) d o4 = upd H d o4 := by
  funext b
  by_cases h1 : b = d
  · rw [h1, upd_same, upd_same]
  · rw [upd_ne h1, upd_ne h1]
    by_cases h2 : b = a
    · rw [h2, L2.del_same, ha]
    · rw [L2.del_ne h2, upd_ne h2, upd_ne h1, upd_ne h2]
section
variable {X : Cx} {W : WX} {k j : Nat} {x f : Str} {p pos pos' : Pos} {e : Expr} {te : TE}
theorem ps_raiseI (c : XIn X.prog X.w X.K X.mg X.base k x f) (hr : RoomG j X.A) (hk : k + 1 ≤ j) (hc : X.calm = true) (tk : Takes X W) (hg : Gl X x) (he : PE X e te) (hdb : (x == ("__debug__" : Str)) = false := by decide)
    (hst : starEach (e :: []) X.env = (false, eval e X.env) :: starEach [] X.env := by rfl) (hpl : (backTo pos (starEach [] X.env)).any (·.1) = false := by rfl) :
    PS X (.Raise (some (.Call (.Name x p) [e] [] pos)) none pos') (tRaiseI X.K x f W te) := ⟨fun pins s σ H D I h => by
  obtain ⟨fI, fd, ps, F, hm, bi, iC, tI⟩ := c.ex
  obtain ⟨xx, h⟩ := h
  obtain ⟨c1, c2, c3⟩ := exInit_ok xx
  have M := pmk_oex (pos := pos) (p := p) (dvs := []) (ds := []) c1 iC tI F (hr.mono hk).rm bi .nil pass0 hg hm (pa_cons he pa_nil (hs := hst)) hdb hst hpl
  refine (ps_raise (pos := pos') hc tk M).run pins s σ H D I ?_
  exact h⟩
end
/-- the error is made and goes out -/
theorem g_raiseI {K : PySem.W.Frag} {x f : Str} {W : WX} {σ : L2.St} {y : V} {H : Hp} (c : exInit x f K = true) (q : ∀ d, H d = none → W (.ref (He.ga K x)) (some d) σ (upd H d (.xd [(f, y)]))) : rRaiseI K x f W σ y H := by
  refine ⟨show 1 ≤ 1000 by decide, fun a ha => ⟨_, _, rfl, c, a, rfl, upd_same, fun d h1 h2 => ⟨rfl, d, [(f, y)], upd_same, ?_, ?_, ?_⟩⟩⟩
  · rw [upd_ne h2]
    exact upd_same
  · rw [upd_ne h2] at h1
    exact h1
  · rw [del_put ha h2]
    rw [upd_ne h2] at h1
    exact q d h1
/-! YBx: books of things that may be no rules, or too many. -/
open PySem PySem.Spec PyProof.Rows L2
mutual
theorem At.add {H : Hp} {L : List Addr} {a : Addr} (n : ∀ xs, H a ≠ some (.lst xs) ∧ H a ≠ some (.tup xs)) : ∀ {v : V} {d : PyData}, At H L v d → At H (a :: L) v d
  | _, _, .non => .non
  | _, _, .bl b => .bl b
  | _, _, .int i => .int i
  | _, _, .str z => .str z
  | _, _, .lst m h r => .lst (fun z => (List.mem_cons.mp z).elim (fun e => (n _).1 (by rw [← e]; exact h)) m) h (Ats.add n r)
  | _, _, .tup m h r => .tup (fun z => (List.mem_cons.mp z).elim (fun e => (n _).2 (by rw [← e]; exact h)) m) h (Ats.add n r)
theorem Ats.add {H : Hp} {L : List Addr} {a : Addr} (n : ∀ xs, H a ≠ some (.lst xs) ∧ H a ≠ some (.tup xs)) : ∀ {vs : List V} {ds : List PyData}, Ats H L vs ds → Ats H (a :: L) vs ds
  | _, _, .nil => .nil
  | _, _, .cons h r => .cons (At.add n h) (Ats.add n r)
end
/-- all are rules -/
def AllR (ds : List PyData) (rs : List RuleD) : Prop := ds.map asRule = rs.map some
theorem AllR.len {ds : List PyData} {rs : List RuleD} (h : AllR ds rs) : ds.length = rs.length := by
  have := congrArg List.length h
  simpa using this
theorem AllR.snoc {ds : List PyData} {rs : List RuleD} {i : Nat} {d : PyData} {r : RuleD} (h : AllR (ds.take i) rs) (e : ds[i]? = some d) (f : asRule d = some r) : AllR (ds.take (i + 1)) (rs ++ [r]) := by
  unfold AllR at h ⊢
  rw [List.take_add_one, e, List.map_append, List.map_append, h]
  simp [f]
def spx_Book_init (K : PySem.W.Frag) : Sp := Sp2 fun v y H Q E => CFR K ∧ CFB K ∧ exInit "NoRule" "number" K = true ∧ exBare "TooMany" K = true ∧ ∃ (a dx : Addr) (xs : List V) (ds : List PyData), v = .ref a ∧ H a = some (.ins (He.ga K "Book") dx []) ∧
  ((y = .non ∧ xs = []) ∨ ∃ p, y = .ref p ∧ SqL K H p xs) ∧ Paired (At H [a]) xs ds ∧ ds.length ≤ 1000 ∧
  (∀ i d dd H', ds[i]? = some d → asRule d = none → (∃ rs, AllR (ds.take i) rs) → Kp [a] H H' → H' dd = some (.xd [("number", .int (i : Nat))]) → E (.ref (He.ga K "NoRule")) (some dd) H') ∧
  (∀ rs H', AllR ds rs → 24 < rs.length → Kp [a] H H' → E (.ref (He.ga K "TooMany")) none H') ∧
  ∀ rs H' F, AllR ds rs → rs.length ≤ 24 → Kp [a] H H' → BookAt K H' F v rs → (∀ p ∈ F, Fr H p) → Q .non H'
def x_Book_init (K : PySem.W.Frag) (E : XK) : TS :=
  (tSeq (tAsg (tLst tNil) (gName 2))
  (tSeq (tIfS (tTest (tOp rNotN (tVar 1) (tC .non)))
  (tAsg (tCB (rListOf K) (tCons (tVar 1) tNil)) (gName 2))
  tNext)
  (tSeq (sFld K (tVar 0) (tLst tNil) "kept")
  (tSeq (sFld K (tVar 0) tDNewK "newest")
  (tSeq (tFor (iEnum K (tCons (tVar 2) tNil)) (gTup K 2 (gCons (gName 3) (gCons (gName 4) gNil)))
  (tSeq (tAsg (tCall (sp_rule_of K) [] E0 (tCons (tVar 4) tNil)) (gName 5))
  (tSeq (tIfS (tTest (tOp rIsN (tVar 5) (tC .non)))
  (tRaiseI K "NoRule" "number" (XW E) (tVar 3))
  tNext)
  (tSeq (tDrop (tBM K "list" rAppend (tFld K (tVar 0) "kept") (tCons (tVar 5) tNil)))
  (tDrop (tBM K "list" rInsert (tDSetd (tFld K (tVar 0) "newest") (tRule K "word" (sp_word K) (tVar 5) tNil) (tLst tNil)) (tCons (tC (.int 0)) (tCons (tVar 5) tNil))))))))
  (tIfS (tTest (tOp rGt (tCB (rLen K) (tCons (tVar 2) tNil)) (tC (.int 24))))
  (tRaiseB K "TooMany" (XW E))
  tNext))))))
theorem purex_Book_init {K : PySem.W.Frag} {v y : V} {H : Hp} {Q : VK} {E : XK} (h : spx_Book_init K [v, y] H Q E) : x_Book_init K E { nx := fun _ H' => Q .non H', rt := Q } [some v, some y, none, none, none, none] H := by
  obtain ⟨v, y, e, c, cb, cn, cm, a, dx, xs, ds, rfl, ho, hy, hxs, hl, q1, q2, q⟩ := h
  cases e
  unfold x_Book_init
  walk_at "ss"
  rename_i th0 hth0
  have hlen := Paired.length hxs
  with_reducible refine jn (P := fun σ H' => ∃ th, σ = [some (.ref a), some y, some (.ref th), none, none, none] ∧ Same H H' ∧ H' th = some (.lst xs)) ?_ fun N hN => ?_
  · clear hth0
    rintro σ H1 ⟨th, rfl, s1, h1⟩
    with_reducible refine g_seq ?_
    with_reducible refine g_sFld ?_
    walk_at "ss"
    rename_i lk hlk
    refine g_bset cb (at_new hlk (s1 _ _ ho)) (by decide) (by decide) ?_
    with_reducible refine g_seq ?_
    with_reducible refine g_sFld ?_
    show ∀ nd, _ = none → _
    intro nd hnd
    walk_at "ss"
    have hla : a ≠ lk := ne_of_none (s1 _ _ ho) hlk
    have hda : a ≠ nd := ne_of_none upd_same hnd
    have hdl : lk ≠ nd := ne_of_none (o := .lst []) (at_ne hla.symm upd_same) hnd
    have htl : th ≠ lk := ne_of_none h1 hlk
    have hta : th ≠ a := fun z => by rw [z, s1 _ _ ho] at h1; cases h1
    have htd : th ≠ nd := ne_of_none (o := .lst xs) (at_ne hta (at_ne htl h1)) hnd
    have fl : Fr H lk := Same.free s1 hlk
    have fd : Fr H nd := Same.free s1 (by
      have z := hnd
      rw [upd_ne hda.symm, upd_ne hdl.symm] at z
      exact z)
    refine g_bset cb (at_ne hda upd_same) (by decide) (show (1 : Nat) < 1000 by decide) ?_
    obtain ⟨G, hG⟩ : ∃ G, G = upd (upd (upd (upd H1 lk (.lst [])) a (.ins (He.ga K "Book") dx (putF "kept" (.ref lk) []))) nd (.dK [])) a (.ins (He.ga K "Book") dx (putF "newest" (.ref nd) (putF "kept" (.ref lk) []))) := ⟨_, rfl⟩
    rw [← hG]
    have hGa : G a = some (.ins (He.ga K "Book") dx [("kept", .ref lk), ("newest", .ref nd)]) := by rw [hG]; exact upd_same
    have hGl : G lk = some (.lst []) := by rw [hG]; exact at_ne hla.symm (at_ne hdl (at_ne hla.symm upd_same))
    have hGd : G nd = some (.dK []) := by rw [hG]; exact at_ne hda.symm upd_same
    have hGt : G th = some (.lst xs) := by rw [hG]; exact at_ne hta (at_ne htd (at_ne hta (at_ne htl h1)))
    have kG : Kp [a] H G := fun p o e n => by
      have np : p ≠ a := fun z => n (by rw [z]; simp)
      rw [hG]
      exact at_ne np (at_ne (ne_of_none e fd) (at_ne np (at_ne (ne_of_none e fl) (s1 _ _ e))))
    have BG : BookIn K G a dx lk nd [] (fun _ => none) [] := ⟨hGa, ⟨[], hGl, .nil⟩, hGd, Nat.le_refl _, (fun _ => rfl), (fun _ _ e => by cases e), (fun _ _ => rfl), (fun _ _ _ e => by cases e), (fun _ _ e => by cases e)⟩
    clear hG hnd hlk h1 s1 hGa hGl hGd
    with_reducible refine g_seqF ?_
    refine g_for ?_
    refine g_iEnum ?_
    walk_at "ss"
    refine ⟨th, xs, rfl, SqL.of hGt, ?_⟩
    refine for_it (walk_enum (K := K) (a := th) (xs := xs)) (fun i σ H' => ∃ v3 v4 v5 kvs nw rs, σ = [some (.ref a), some y, some (.ref th), v3, v4, v5] ∧ AllR (ds.take i) rs ∧ Kp [a] H H' ∧ H' th = some (.lst xs) ∧ BookIn K H' a dx lk nd kvs nw rs ∧ ∀ w l, nw w = some l → Fr H l ∧ l ≠ th)
      ⟨_, _, _, [], _, [], rfl, rfl, kG, hGt, BG, (fun _ _ e => by cases e)⟩ (fun i σ H' _ h => by obtain ⟨_, _, _, _, _, _, _, _, _, h, _⟩ := h; exact SqL.of h) ?_ ?_
    · clear BG kG hGt G H1 th0 q
      rintro i x σ H' H2 hi ⟨v3, v4, v5, kvs, nw, rs, rfl, hal, k', ht, B, hnw⟩ ⟨T, x1, x2, rfl, hT, rfl, h1, h2⟩
      replace hT : Fr H' T := hT
      replace h2 : xs[i]? = some x2 := h2
      obtain rfl : x1 = .int (i : Nat) := (Option.some.inj h1).symm
      obtain ⟨d, hr, hx⟩ := Paired.getL hxs h2
      have hx2 : At (upd H' T (.tup [.int (i : Nat), x2])) [] x2 d := (at_new' hT (hx.kp k')).nil
      have hids : i < ds.length := (List.getElem?_eq_some_iff.mp hr).1
      have hrl : rs.length = i := by
        have := hal.len
        rw [List.length_take] at this
        omega
      walk_at "ss"
      refine g_rule_of c hx2 (fun e H3 s3 => ?_) fun r e v H3 s3 hv => ?_
      · walk_at "ss"
        with_reducible refine g_seq ?_
        walk_at "ss"
        refine ite_dt (by simp) ?_
        refine ⟨cn, _, rfl, g_raiseI cn fun dd hdd => q1 i d dd _ hr e ⟨_, hal⟩ ?_ upd_same⟩
        exact fun p o e n => same_new hdd _ _ (s3 _ _ (same_new hT _ _ (k' p o e n)))
      walk_at "ss"
      obtain ⟨pv, dv, wv, rfl, hvo, hvd⟩ := id hv
      have s' : Same H' H3 := (same_new hT).trans s3
      obtain ⟨ks, hk, hks⟩ := B.kept
      have hk3 := s' _ _ hk
      have hkl : ks.length ≤ 1000 := by
        rw [Paired.length hks]
        omega
      have hsm := B.small
      have hal2 := hal.snoc hr e
      have hla3 : a ≠ lk := hla
      have hin : InsAt K H3 (.ref pv) r.w (.int r.f) (.int r.l) wv := ⟨pv, dv, rfl, hvo⟩
      with_reducible refine g_seq ?_
      walk_at "ss"
      refine ite_df (by simp) ?_
      with_reducible refine g_next ?_
      with_reducible refine g_seqD ?_
      with_reducible refine g_drop ?_
      with_reducible refine g_bm ?_
      refine g_bfld cb rfl (s' _ _ B.obj) (by decide) rfl ?_
      walk_at "ss"
      have hin4 : InsAt K (upd H3 lk (.lst (ks ++ [.ref pv]))) (.ref pv) r.w (.int r.f) (.int r.l) wv := ins_put hk3 hin
      have dic4 : (upd H3 lk (.lst (ks ++ [.ref pv]))) nd = some (.dK kvs) := at_ne hdl.symm (s' _ _ B.dic)
      refine g_dSetd ?_
      refine g_bfld cb rfl (at_ne hla (s' _ _ B.obj)) (by decide) rfl ?_
      refine ⟨nd, rfl, .inl ⟨kvs, .inl dic4⟩, ?_⟩
      walk_at "ss"
      rename_i z hz
      have hzk : Fr H3 z := fr_new hz
      have hz' : Fr H' z := Same.free s' hzk
      have fz : Fr H z := by
        refine fr_kp hz' k' fun m => ?_
        rw [List.mem_singleton.mp m] at hz'
        have := B.obj
        rw [show H' a = none from hz'] at this
        cases this
      have zlk : z ≠ lk := (ne_of_none hk3 hzk).symm
      have zth : z ≠ th := (ne_of_none ht hz').symm
      have znd : z ≠ nd := (ne_of_none (s' _ _ B.dic) hzk).symm
      have za : z ≠ a := (ne_of_none (s' _ _ B.obj) hzk).symm
      have ik4 : Ik H' (upd (upd H3 lk (.lst (ks ++ [.ref pv]))) z (.lst [])) := (Same.ik s').trans (((nk_put hk3).trans (nk_new hz)).ik)
      have hv4 : RuleAt K (upd (upd H3 lk (.lst (ks ++ [.ref pv]))) z (.lst [])) (.ref pv) r := hv.ik (((nk_put hk3).trans (nk_new hz)).ik)
      refine ⟨kvs, .inr r.w.word, at_new hz dic4, rfl, by rw [sizeLine_eq]; omega, fun v' hv' => ?_, fun hn => ?_⟩
      · rw [B.key] at hv'
        cases hn : nw r.w with
        | none => rw [hn] at hv'; cases hv'
        | some l =>
          rw [hn] at hv'
          obtain rfl : V.ref l = v' := Option.some.inj hv'
          obtain ⟨ys, hly, hys⟩ := B.here _ _ hn
          have llk := B.ne _ _ hn
          have lz : l ≠ z := ne_of_none hly hz'
          have hl5 : (upd (upd H3 lk (.lst (ks ++ [.ref pv]))) z (.lst [])) l = some (.lst ys) := at_ne lz (at_ne llk (s' _ _ hly))
          refine g_tyL (SqL.of hl5) ?_
          walk_at "ss"
          refine g_insert0 hl5 (by
            rw [Paired.length hys, sizeLine_eq]
            unfold newestOf
            rw [List.length_reverse]
            have h1 := List.length_filter_le (fun r' : RuleD => decide (r'.w = r.w)) rs
            omega) ?_
          have ik5 := ik4.trans (nk_put (o := .lst (.ref pv :: ys)) hl5).ik
          refine ⟨_, _, _, kvs, (fun w => if w = r.w then some l else nw w), _, rfl, hal2, ?_, ?_, ?_, fun w p hp => ?_⟩
          · exact fun p o e n => at_ne (ne_of_none e (hnw _ _ hn).1) (at_ne (ne_of_none e fz) (at_ne (ne_of_none e fl) (s' _ _ (k' _ _ e n))))
          · exact at_ne (Ne.symm (hnw _ _ hn).2) (at_ne zth.symm (at_ne htl (s' _ _ ht)))
          · refine B.step (hv4.ik (nk_put hl5).ik) ik5 hk (at_ne llk.symm (at_ne zlk.symm upd_same)) (at_ne ?_ (at_new hz dic4)) (by omega) (fun w => ?_) upd_same (.inl ⟨hn, hly⟩) fun w p hw hp ys' hy' => ?_
            · intro e
              rw [← e] at hly
              rw [B.dic] at hly
              cases hly
            · by_cases e : w = r.w
              · rw [if_pos e, e, B.key, hn]; rfl
              · rw [if_neg e]
            · have pl : p ≠ l := fun e => hw (B.inj _ _ _ hp (by rw [e]; exact hn))
              exact at_ne pl (at_ne (ne_of_none hy' hz') (at_ne (B.ne _ _ hp) (s' _ _ hy')))
          · replace hp : (if w = r.w then some l else nw w) = some p := hp
            by_cases e : w = r.w
            · rw [if_pos e] at hp
              cases hp
              exact hnw _ _ hn
            · rw [if_neg e] at hp
              exact hnw _ _ hp
      · have hnn : nw r.w = none := by
          rw [B.key] at hn
          cases e : nw r.w with
          | none => rfl
          | some l => rw [e] at hn; cases hn
        have hz5 : (upd (upd (upd H3 lk (.lst (ks ++ [.ref pv]))) z (.lst [])) nd (.dK (putK kvs (.inr r.w.word) (.ref z)))) z = some (.lst []) := at_ne znd upd_same
        refine g_tyL (SqL.of hz5) ?_
        walk_at "ss"
        try refine g_insert0 hz5 (by rw [sizeLine_eq]; decide) ?_
        have ikd := ik_dic (o := .dK (putK kvs (.inr r.w.word) (.ref z))) (at_new (u := .lst []) hz dic4)
        have ik5 := (ik4.trans ikd).trans (nk_put (o := .lst [.ref pv]) hz5).ik
        refine ⟨_, _, _, putK kvs (.inr r.w.word) (.ref z), (fun w => if w = r.w then some z else nw w), _, rfl, hal2, ?_, ?_, ?_, fun w p hp => ?_⟩
        · exact fun p o e n => at_ne (ne_of_none e fz) (at_ne (ne_of_none e fd) (at_ne (ne_of_none e fz) (at_ne (ne_of_none e fl) (s' _ _ (k' _ _ e n)))))
        · exact at_ne zth.symm (at_ne htd (at_ne zth.symm (at_ne htl (s' _ _ ht))))
        · refine B.step ((hv4.ik ikd).ik (nk_put hz5).ik) ik5 hk (at_ne zlk.symm (at_ne hdl (at_ne zlk.symm upd_same))) (at_ne znd.symm upd_same) (by
            have := length_putK kvs (.inr r.w.word) (.ref z)
            omega) (fun w => ?_) upd_same (.inr ⟨hnn, rfl, zlk, fun w e => ?_⟩) fun w p hw hp ys' hy' => ?_
          · rw [valV_put]
            by_cases e : w = r.w
            · rw [if_pos e, if_pos (by rw [e])]
            · rw [if_neg e, if_neg fun h => e (Wd.word_inj (Sum.inr.inj h))]
          · obtain ⟨ys, h3, -⟩ := B.here _ _ e
            rw [show H' z = none from hz'] at h3
            cases h3
          · have pnd : p ≠ nd := fun e => by
              rw [e, B.dic] at hy'
              cases hy'
            exact at_ne (ne_of_none hy' hz') (at_ne pnd (at_ne (ne_of_none hy' hz') (at_ne (B.ne _ _ hp) (s' _ _ hy'))))
        · replace hp : (if w = r.w then some z else nw w) = some p := hp
          by_cases e : w = r.w
          · rw [if_pos e] at hp
            cases hp
            exact ⟨fz, zth⟩
          · rw [if_neg e] at hp
            exact hnw _ _ hp
    · rintro σ H' ⟨v3, v4, v5, kvs, nw, rs, rfl, hal, k', ht, B, hnw⟩
      rw [List.take_of_length_le (by omega)] at hal
      have hrl := hal.len
      walk_at "ss"
      by_cases hm : 24 < rs.length
      · refine ite_dt (by rw [hlen]; omega) ?_
        exact ⟨cm, q2 rs H' hal hm k'⟩
      refine ite_df (by rw [hlen]; omega) ?_
      walk_at "ss"
      refine q rs H' _ hal (by omega) k' ⟨a, dx, lk, nd, kvs, nw, rfl, rfl, B⟩ fun p hp => ?_
      rcases List.mem_cons.mp hp with rfl | hp
      · exact fd
      rcases List.mem_cons.mp hp with rfl | hp
      · exact fl
      · obtain ⟨w, -, hw⟩ := List.mem_filterMap.mp hp
        exact (hnw w p hw).1
  · walk_at "ss"
    rcases hy with ⟨rfl, rfl⟩ | ⟨p, rfl, hp⟩
    · refine ite_ndt rfl ?_
      walk_at "ss"
      exact hN _ _ ⟨_, rfl, by walk_at "sm", upd_same⟩
    · refine ite_ndf (by simp) ?_
      walk_at "ss"
      exact hN _ _ ⟨_, rfl, by walk_at "sm", upd_same⟩
/-! YU: lists of drawn rules. -/
open PySem PySem.Spec PyProof.Rows L2
theorem isCoins_b {d : PyData} (h : isCoins d = true) : ∃ i, d = .int i ∧ 0 ≤ i ∧ i ≤ 1000000000000 := by
  cases d with
  | int i =>
    have h' : (decide (0 ≤ i) && decide (i ≤ 1000000000000)) = true := h
    simp at h'
    exact ⟨i, rfl, h'⟩
  | _ => cases h
theorem isNights_b {d : PyData} (h : isNights d = true) : ∃ i, d = .int i ∧ 1 ≤ i ∧ i ≤ 14 := by
  cases d with
  | int i =>
    have h' : (decide (1 ≤ i) && decide (i ≤ 14)) = true := h
    simp at h'
    exact ⟨i, rfl, h'⟩
  | _ => cases h
theorem isDeal_ex {d : PyData} (h : isDeal d = true) : d = .none ∨ ∃ m f, d = .tuple [.int m, .int f] ∧ 1 ≤ m ∧ m ≤ 14 ∧ 1 ≤ f ∧ f < m := by
  cases d with
  | none => exact .inl rfl
  | tuple ds =>
    refine .inr ?_
    by_cases hl : ds.length = 2
    · match ds, hl with
      | [p, q], _ =>
        have hp : isNights p = true := by
          cases e : isNights p with
          | true => rfl
          | false => rw [isDeal_n e] at h; cases h
        have hq : isW q = true := by
          cases e : isW q with
          | true => rfl
          | false => rw [isDeal_w e] at h; cases h
        obtain ⟨m, rfl, m0, m1⟩ := isNights_b hp
        obtain ⟨f, rfl⟩ := isW_int hq
        have h' : (isNights (.int m) && (decide (1 ≤ f) && decide (f < m))) = true := h
        rw [hp] at h'
        simp at h'
        exact ⟨m, f, rfl, m0, m1, h'⟩
    · rw [isDeal_no hl] at h; cases h
  | _ => cases h
def Rus (H : Hp) (xs : List V) (rs : List RuleD) : Prop := Paired (RuT H) xs rs
theorem Rus.tk {H H' : Hp} {xs : List V} {rs : List RuleD} (k : Tk H H') (h : Rus H xs rs) : Rus H' xs rs := Paired.mapP h fun _ _ q => q.tk k
theorem ru_nil {H : Hp} : Rus H [] [] := .nil
theorem ru_new {H : Hp} {p : Addr} {o : HO} {xs : List V} {rs : List RuleD} (hp : Fr H p) (h : Rus H xs rs) : Rus (upd H p o) xs rs := h.tk (tk_new hp)
theorem ru_put {H : Hp} {p : Addr} {o : HO} {zs : List V} {xs : List V} {rs : List RuleD} (hp : H p = some (.lst zs)) (h : Rus H xs rs) : Rus (upd H p o) xs rs := h.tk (tk_put hp)
theorem ru_same {H H' : Hp} {xs : List V} {rs : List RuleD} (k : Same H H') (h : Rus H xs rs) : Rus H' xs rs := h.tk (Same.tk k)
theorem ru_kp {H H' : Hp} {t b s : Addr} {xs : List V} {rs : List RuleD} (k : Kp [t, b] H H') (T : Tape H t b s) (h : Rus H xs rs) : Rus H' xs rs := h.tk (tk_kp T k)
theorem ru_app {H : Hp} {xs ys : List V} {rs ss : List RuleD} (h : Rus H xs rs) (g : Rus H ys ss) : Rus H (xs ++ ys) (rs ++ ss) := Paired.app h g
theorem ru_take {H : Hp} {n : Nat} {xs : List V} {rs : List RuleD} (h : Rus H xs rs) : Rus H (xs.take n) (rs.take n) := Paired.take n h
theorem ru_drop {H : Hp} {n : Nat} {xs : List V} {rs : List RuleD} (h : Rus H xs rs) : Rus H (xs.drop n) (rs.drop n) := Paired.drop n h
theorem ru_len {H : Hp} {xs : List V} {rs : List RuleD} (h : Rus H xs rs) : xs.length = rs.length := Paired.length h
theorem dp_rules {K : PySem.W.Frag} {H : Hp} : ∀ {xs : List V} {rs : List RuleD}, Rus H xs rs → DpAll K H xs (rs.map RuleD.told)
  | _, _, .nil => .nil
  | _, _, .cons r t => .cons r.td.dp (dp_rules t)
theorem dp_row {K : PySem.W.Frag} {H : Hp} {p : Addr} {xs : List V} {rs : List RuleD} (h : SqL K H p xs) (r : Rus H xs rs) : Dp K H (.ref p) (.list (rs.map RuleD.told)) := .lst h (dp_rules r)
theorem gd_app {rs ss : List RuleD} (h : ∀ r ∈ rs, RuleD.good r) (g : ∀ r ∈ ss, RuleD.good r) : ∀ r ∈ rs ++ ss, RuleD.good r := fun r hr => (List.mem_append.mp hr).elim (h r) (g r)
theorem g_brulesR {K : PySem.W.Frag} {F : List Addr} {rs : List RuleD} {v : V} {H : Hp} {Q : VK} {E : XK} (c : CFR K) (cb : CFB K) (b : BookAt K H F v rs) (l : rs.length ≤ 1000) (q : ∀ p H' ys, Same H H' → Fr H p → H' p = some (.lst ys) → Rus H' ys rs → Q (.ref p) H') : sp_Book_rules K (v :: ([] ++ [])) H Q E := g_brules c cb b l q
/-- a method of what an expression makes -/
def rObj (C : Addr) (m : Str) (x : V) (H1 : Hp) (R : Hp → Prop) : Prop := ∃ a dx fs, x = .ref a ∧ H1 a = some (.ins C dx fs) ∧ fs.lookup m = none ∧ R H1
theorem g_meth {C : Addr} {m : Str} {sp : Sp} {dvs : List V} {E : XK} {ta : TE} {t : TA} {σ : L2.St} {H : Hp} {Q : VK} (q : ta σ H fun x H1 => rObj C m x H1 fun H2 => t σ H2 fun vs H3 => sp (x :: (vs ++ dvs)) H3 Q E) : tMeth C m sp dvs E ta t σ H Q := q
theorem g_robj {K : PySem.W.Frag} {m : Str} {H : Hp} {v : V} {F : List Addr} {rs : List RuleD} {R : Hp → Prop} (b : BookAt K H F v rs) (no : decide (m = "kept") = false ∧ decide (m = "newest") = false) (q : R H) : rObj (He.ga K "Book") m v H R := by
  obtain ⟨a, dx, lk, nd, kvs, nw, rfl, rfl, B⟩ := b
  refine ⟨a, dx, _, rfl, B.obj, ?_, q⟩
  have h1 : (m == ("kept" : Str)) = false := beq_eq_false_iff_ne.mpr (of_decide_eq_false no.1)
  have h2 : (m == ("newest" : Str)) = false := beq_eq_false_iff_ne.mpr (of_decide_eq_false no.2)
  simp only [List.lookup, h1, h2]
theorem g_slTo {K : PySem.W.Frag} {H : Hp} {Q : VK} {p : Addr} {xs : List V} {n : Int} (hn : 0 ≤ n) (h : SqL K H p xs) (q : ∀ a, Fr H a → Q (.ref a) (upd H a (.lst (xs.take n.toNat)))) : rSlL K (.ref p) none (some n) H Q := g_slL h fun a ha => by
  rw [cut_to hn]; exact q a ha
theorem g_slFrom {K : PySem.W.Frag} {H : Hp} {Q : VK} {p : Addr} {xs : List V} {n : Int} (hn : 0 ≤ n) (h : SqL K H p xs) (q : ∀ a, Fr H a → Q (.ref a) (upd H a (.lst (xs.drop n.toNat)))) : rSlL K (.ref p) (some n) none H Q := g_slL h fun a ha => by
  rw [cut_from hn]; exact q a ha
/-- comprehensions of drawn things -/
theorem lc_dr {t b s : Addr} {lo : Int} {n : Nat} {g : TG} {tt : TT} {te : TE} {vs : List Nat} {σ : L2.St} {H1 : Hp} {Qf : Addr → Hp → Prop} {β : Type} (T1 : Tape H1 t b s) (R : Hp → V → β → Prop) (hR : ∀ G G' v b, Tk G G' → R G v b → R G' v b) (P : β → Prop) (hn : n < 100000)
    (hs : ∀ (D : Addr) i H (N : Hp → Prop) acc, Fr H1 D → i < n → Tape H t b s → H D = some (.lst acc) → D ∉ [t, b] → (∀ y z H4, R H4 y z → P z → Tape H4 t b s → Kp [t, b] H H4 → ∃ acc, H4 D = some (.lst acc) ∧ acc.length < sizeLine ∧ N (upd H4 D (.lst (acc ++ [y])))) →
      g (.int (lo + i)) (wipe σ vs) H fun σ2 H2 => wipe σ2 vs = wipe σ vs ∧ tt σ2 H2 fun b H3 =>
        if b = true then te σ2 H3 fun y H4 => ∃ acc, H4 D = some (.lst acc) ∧ acc.length < sizeLine ∧ N (upd H4 D (.lst (acc ++ [y]))) else N H3)
    (hd : ∀ D H' (ys : List V) (zs : List β), Fr H1 D → Tape H' t b s → Kp [t, b] H1 H' → H' D = some (.lst ys) → Paired (R H') ys zs → zs.length = n → (∀ z ∈ zs, P z) → Qf D H') :
    ∀ D, Fr H1 D → ∃ W : Nat → Nat → Hp → Prop, (∃ m, W 0 m (upd H1 D (.lst []))) ∧ ∀ i m H, W i m H →
      ((Itr lo n).stop i H ∧ Qf D H) ∨ ((Itr lo n).go i H ∧ ∃ Nx : Hp → Prop, (∀ H', Nx H' → ∃ m', m' < m ∧ W (i + 1) m' H') ∧ ∀ x H', (Itr lo n).yld i H x H' → g x (wipe σ vs) H' fun σ2 H2 => wipe σ2 vs = wipe σ vs ∧ tt σ2 H2 fun b H3 =>
        if b = true then te σ2 H3 fun y H4 => ∃ acc, H4 D = some (.lst acc) ∧ acc.length < sizeLine ∧ Nx (upd H4 D (.lst (acc ++ [y]))) else Nx H3) := fun D hD => by
  have nD : D ∉ [t, b] := ni_tape hD T1
  refine lc_it walk_range (fun i H => Tape H t b s ∧ Kp [t, b] H1 H ∧ ∃ ys zs, H D = some (.lst ys) ∧ Paired (R H) ys zs ∧ zs.length = i ∧ ∀ z ∈ zs, P z) ⟨tape_new hD T1, kp_own hD (Kp.refl _ _), [], [], upd_same, .nil, rfl, by simp⟩ (fun i H _ h => trivial) (fun i x H H' hi ⟨T, k, ys, zs, ha, hr, hl, hp⟩ y => ?_) fun H ⟨T, k, ys, zs, ha, hr, hl, hp⟩ => hd D H ys zs hD T k ha hr hl hp
  obtain ⟨rfl, rfl⟩ := y
  refine hs D i H' _ _ hD hi T ha nD fun y z H4 hy hz T4 k4 => ⟨ys, k4 _ _ ha nD, by rw [Paired.length hr, sizeLine_eq]; omega, tape_own hD T1 T4, kp_own hD (k.trans k4), ys ++ [y], zs ++ [z], upd_same, ?_, by simp [hl], fun x hx => ?_⟩
  · have tk : Tk H4 (upd H4 D (.lst (ys ++ [y]))) := tk_put (k4 _ _ ha nD)
    exact Paired.app (Paired.mapP hr fun _ _ q => hR _ _ _ _ ((tk_kp T k4).trans tk) q) (.cons (hR _ _ _ _ tk hy) .nil)
  rcases List.mem_append.mp hx with hx | hx
  · exact hp x hx
  · rw [List.mem_singleton.mp hx]; exact hz
/-! YV: the worth that is due. -/
open PySem PySem.Spec PyProof.Rows L2
def dueD (rs : List RuleD) (w : Wd) (day : Int) : PyData := rs.foldl (fun d r => if r.w = w ∧ r.f ≤ day ∧ day ≤ r.l then r.d else d) (usualD w)
theorem due_snoc (rs : List RuleD) (r : RuleD) (w : Wd) (day : Int) : dueD (rs ++ [r]) w day = if r.w = w ∧ r.f ≤ day ∧ day ≤ r.l then r.d else dueD rs w day := by
  unfold dueD
  rw [List.foldl_append]
  rfl
theorem tells_snoc (rs : List RuleD) (r : RuleD) (w : Wd) (day : Int) : tellsD (rs ++ [r]) w day = if r.w = w ∧ r.f ≤ day ∧ day ≤ r.l then r.d else tellsD rs w day := by
  unfold tellsD
  rw [newest_snoc]
  by_cases h : r.w = w
  · rw [if_pos h, List.find?_cons]
    by_cases h1 : r.f ≤ day ∧ day ≤ r.l
    · rw [if_pos ⟨h, h1⟩, decide_eq_true h1.1, decide_eq_true h1.2]
      rfl
    · rw [if_neg (fun z => h1 z.2)]
      have : (decide (r.f ≤ day) && decide (day ≤ r.l)) = false := by
        rw [← Bool.decide_and]
        exact decide_eq_false h1
      rw [this]
  · rw [if_neg h, if_neg fun z => h z.1]
theorem due_tells (rs : List RuleD) (w : Wd) (day : Int) : dueD rs w day = tellsD rs w day := by
  have : ∀ l : List RuleD, dueD l.reverse w day = tellsD l.reverse w day := by
    intro l
    induction l with
    | nil => rfl
    | cons r l ih => rw [List.reverse_cons, due_snoc, tells_snoc, ih]
  have h := this rs.reverse
  rwa [List.reverse_reverse] at h
theorem tells_mem (rs : List RuleD) (w : Wd) (day : Int) : tellsD rs w day = usualD w ∨ ∃ r ∈ rs, r.w = w ∧ r.f ≤ day ∧ day ≤ r.l ∧ tellsD rs w day = r.d := by
  have : ∀ l : List RuleD, tellsD l.reverse w day = usualD w ∨ ∃ r ∈ l.reverse, r.w = w ∧ r.f ≤ day ∧ day ≤ r.l ∧ tellsD l.reverse w day = r.d := by
    intro l
    induction l with
    | nil => exact .inl rfl
    | cons r l ih =>
      rw [List.reverse_cons, tells_snoc]
      by_cases h : r.w = w ∧ r.f ≤ day ∧ day ≤ r.l
      · rw [if_pos h]
        exact .inr ⟨r, by simp, h.1, h.2.1, h.2.2, rfl⟩
      · rw [if_neg h]
        rcases ih with e | ⟨r', h1, h2⟩
        · exact .inl e
        · exact .inr ⟨r', List.mem_append_left _ h1, h2⟩
  have h := this rs.reverse
  rwa [List.reverse_reverse] at h
/-! YC: lists of data; what a book tells is of the word's kind. -/
open PySem PySem.Spec PyProof.Rows L2
theorem tds_app {H : Hp} {ys : List V} {es : List PyData} (g : Tds H ys es) : ∀ {xs : List V} {ds : List PyData}, Tds H xs ds → Tds H (xs ++ ys) (ds ++ es)
  | _, _, .nil => g
  | _, _, .cons a b => .cons a (tds_app g b)
theorem tds_snoc {H : Hp} {xs : List V} {ds : List PyData} {x : V} {d : PyData} (h : Tds H xs ds) (g : Td H x d) : Tds H (xs ++ [x]) (ds ++ [d]) := tds_app (.cons g .nil) h
theorem tds_tk {H H' : Hp} {xs : List V} {ds : List PyData} (k : Tk H H') (h : Tds H xs ds) : Tds H' xs ds := h.tk k
theorem tds_new {H : Hp} {p : Addr} {o : HO} {xs : List V} {ds : List PyData} (hp : Fr H p) (h : Tds H xs ds) : Tds (upd H p o) xs ds := tds_tk (tk_new hp) h
theorem tds_put {H : Hp} {p : Addr} {o : HO} {zs : List V} {xs : List V} {ds : List PyData} (hp : H p = some (.lst zs)) (h : Tds H xs ds) : Tds (upd H p o) xs ds := tds_tk (tk_put hp) h
theorem tds_same {H H' : Hp} {xs : List V} {ds : List PyData} (k : Same H H') (h : Tds H xs ds) : Tds H' xs ds := tds_tk (Same.tk k) h
theorem tds_len {H : Hp} : ∀ {xs : List V} {ds : List PyData}, Tds H xs ds → xs.length = ds.length
  | _, _, .nil => rfl
  | _, _, .cons a b => by simp [tds_len b]
theorem tds_dp {K : PySem.W.Frag} {H : Hp} : ∀ {xs : List V} {ds : List PyData}, Tds H xs ds → DpAll K H xs ds
  | _, _, .nil => .nil
  | _, _, .cons a b => .cons a.dp (tds_dp b)
theorem tds_of {H : Hp} : ∀ {xs : List V} {ds : List PyData}, Paired (fun v d => Td H v d) xs ds → Tds H xs ds
  | _, _, .nil => .nil
  | _, _, .cons a b => .cons a (tds_of b)
theorem tds_get {H : Hp} : ∀ {xs : List V} {ds : List PyData}, Tds H xs ds → ∀ {i : Nat} {x : V}, xs[i]? = some x → ∃ d, ds[i]? = some d ∧ Td H x d
  | _, _, .nil, i, x, h => by simp at h
  | _, _, .cons a b, 0, x, h => by
    simp at h
    subst h
    exact ⟨_, by simp, a⟩
  | _, _, .cons a b, i + 1, x, h => by
    obtain ⟨d, h1, h2⟩ := tds_get b (i := i) (by simpa using h)
    exact ⟨d, by simpa using h1, h2⟩
theorem g_slMid {K : PySem.W.Frag} {H : Hp} {Q : VK} {p : Addr} {xs : List V} {n m : Int} (hn : 0 ≤ n) (hm : 0 ≤ m) (h : SqL K H p xs) (q : ∀ a, Fr H a → Q (.ref a) (upd H a (.lst ((xs.take m.toNat).drop n.toNat)))) : rSlL K (.ref p) (some n) (some m) H Q := g_slL h fun a ha => by
  rw [cut_mid hn hm]; exact q a ha
/-- a value's truth (the hand layer's own word is an abbreviation) -/
def tTru (K : PySem.W.Frag) (ta : TE) : TT := fun σ H Q => ta σ H fun x H1 => ∃ k, TruV K x H1 k ∧ Q k H1
def rTru (K : PySem.W.Frag) (x : V) (H : Hp) (Q : Bool → Hp → Prop) : Prop := ∃ k, TruV K x H k ∧ Q k H
theorem g_tru {K : PySem.W.Frag} {ta : TE} {σ : L2.St} {H : Hp} {Q : Bool → Hp → Prop} (h : ta σ H fun x H1 => rTru K x H1 Q) : tTru K ta σ H Q := h
theorem g_truB {K : PySem.W.Frag} {b : Bool} {H : Hp} {Q : Bool → Hp → Prop} (q : Q b H) : rTru K (.bl b) H Q := ⟨b, rfl, q⟩
/-- x is True, x is False -/
def rIsB : R2 := fun x y H Q => ∃ b c, x = .bl b ∧ y = .bl c ∧ Q (.bl (decide (b = c))) H
theorem g_tellsZ {K : PySem.W.Frag} {F : List Addr} {rs : List RuleD} {z : Str} {w : Wd} {day : Int} {v : V} {H : Hp} {Q : VK} {E : XK} (c : CFR K) (cb : CFB K) (b : BookAt K H F v rs) (ez : wordOf z = some w) (q : ∀ x H', Same H H' → Td H' x (tellsD rs w day) → Q x H') : sp_Book_tells_of K (v :: ([.str z, .int day] ++ [])) H Q E := by
  rw [wordOf_some ez]
  exact g_tells_of c cb b q
theorem wd_price : wordOf ("price" : Str) = some .price := wordOf_word .price
theorem wd_come : wordOf ("come" : Str) = some .come := wordOf_word .come
theorem wd_go : wordOf ("go" : Str) = some .go := wordOf_word .go
theorem wd_least : wordOf ("least" : Str) = some .least := wordOf_word .least
theorem wd_most : wordOf ("most" : Str) = some .most := wordOf_word .most
theorem wd_deal : wordOf ("deal" : Str) = some .deal := wordOf_word .deal
theorem wd_fee : wordOf ("fee" : Str) = some .fee := wordOf_word .fee
theorem usual_fit (w : Wd) : fitsD w (usualD w) = true := by cases w <;> rfl
theorem tells_fits {rs : List RuleD} (g : ∀ r ∈ rs, RuleD.good r) (w : Wd) (day : Int) : fitsD w (tellsD rs w day) = true := by
  rcases tells_mem rs w day with e | ⟨r, h, hw, -, -, e⟩
  · rw [e]; exact usual_fit w
  · rw [e, ← hw]; exact (g r h).2.2.2
theorem isBool_b {d : PyData} (h : isBool d = true) : ∃ b, d = .bool b := by
  cases d with
  | bool b => exact ⟨b, rfl⟩
  | _ => cases h
/-- what is told of a word is of its kind -/
theorem td_bool {H : Hp} {x : V} {d : PyData} (h : Td H x d) (f : isBool d = true) : ∃ b, x = .bl b ∧ d = .bool b := by
  obtain ⟨b, rfl⟩ := isBool_b f
  cases h
  exact ⟨b, rfl, rfl⟩
theorem td_night {H : Hp} {x : V} {d : PyData} (h : Td H x d) (f : isNights d = true) : ∃ i, x = .int i ∧ d = .int i ∧ 1 ≤ i ∧ i ≤ 14 := by
  obtain ⟨i, rfl, h0, h1⟩ := isNights_b f
  cases h
  exact ⟨i, rfl, rfl, h0, h1⟩
theorem td_coin {H : Hp} {x : V} {d : PyData} (h : Td H x d) (f : isCoins d = true) : ∃ i, x = .int i ∧ d = .int i ∧ 0 ≤ i ∧ i ≤ 1000000000000 := by
  obtain ⟨i, rfl, h0, h1⟩ := isCoins_b f
  cases h
  exact ⟨i, rfl, rfl, h0, h1⟩
theorem td_price {H : Hp} {x : V} {d : PyData} (h : Td H x d) (f : fitsD .price d = true) : (x = .non ∧ d = .none) ∨ ∃ i, x = .int i ∧ d = .int i ∧ 0 ≤ i ∧ i ≤ 1000000000000 := by
  rcases Bool.or_eq_true_iff.mp (show (isNone d || isCoins d) = true from f) with g | g
  · left
    cases d <;> first | (cases h; exact ⟨rfl, rfl⟩) | cases g
  · exact .inr (td_coin h g)
/-- the worths of a book, by word -/
def comeB (rs : List RuleD) (w : Wd) (day : Int) : Bool := match tellsD rs w day with | .bool b => b | _ => true
def numI (rs : List RuleD) (w : Wd) (day : Int) : Int := match tellsD rs w day with | .int i => i | _ => 0
theorem come_b {rs : List RuleD} (g : ∀ r ∈ rs, RuleD.good r) {w : Wd} (hw : w = .come ∨ w = .go) {day : Int} {H : Hp} {x : V} (h : Td H x (tellsD rs w day)) : x = .bl (comeB rs w day) := by
  have f := tells_fits g w day
  obtain ⟨b, rfl, e⟩ := td_bool h (by rcases hw with rfl | rfl <;> exact f)
  unfold comeB
  rw [e]
theorem num_n {rs : List RuleD} (g : ∀ r ∈ rs, RuleD.good r) {w : Wd} (hw : w = .least ∨ w = .most) {day : Int} {H : Hp} {x : V} (h : Td H x (tellsD rs w day)) : x = .int (numI rs w day) ∧ 1 ≤ numI rs w day ∧ numI rs w day ≤ 14 := by
  have f := tells_fits g w day
  obtain ⟨b, rfl, e, h0, h1⟩ := td_night h (by rcases hw with rfl | rfl <;> exact f)
  unfold numI
  rw [e]
  exact ⟨rfl, h0, h1⟩
theorem num_f {rs : List RuleD} (g : ∀ r ∈ rs, RuleD.good r) {day : Int} {H : Hp} {x : V} (h : Td H x (tellsD rs .fee day)) : x = .int (numI rs .fee day) ∧ 0 ≤ numI rs .fee day ∧ numI rs .fee day ≤ 1000000000000 := by
  have f := tells_fits g .fee day
  obtain ⟨b, rfl, e, h0, h1⟩ := td_coin h f
  unfold numI
  rw [e]
  exact ⟨rfl, h0, h1⟩
def soldB (rs : List RuleD) (day : Int) : Bool := !isNone (tellsD rs .price day)
theorem price_v {rs : List RuleD} (g : ∀ r ∈ rs, RuleD.good r) {day : Int} {H : Hp} {x : V} (h : Td H x (tellsD rs .price day)) : (soldB rs day = false ∧ x = .non) ∨ (soldB rs day = true ∧ x = .int (numI rs .price day) ∧ 0 ≤ numI rs .price day ∧ numI rs .price day ≤ 1000000000000) := by
  have f := tells_fits g .price day
  rcases td_price h f with ⟨rfl, e⟩ | ⟨i, rfl, e, h0, h1⟩
  · left
    unfold soldB
    rw [e]
    exact ⟨rfl, rfl⟩
  · right
    unfold soldB numI
    rw [e]
    exact ⟨rfl, rfl, h0, h1⟩
/-! YLd: books laid over books. -/
open PySem PySem.Spec PyProof.Rows L2
def sp_laid (K : PySem.W.Frag) : Sp := Sp2 fun v u H Q E => CFR K ∧ CFB K ∧ ∃ F1 r1 F2 r2, BookAt K H F1 v r1 ∧ BookAt K H F2 u r2 ∧ r1.length + r2.length ≤ 24 ∧ (∀ r ∈ r1, RuleD.good r) ∧ (∀ r ∈ r2, RuleD.good r) ∧
  ∀ x F H', Same H H' → BookAt K H' F x (r1 ++ r2) → (∀ p ∈ F, Fr H p) → Q x H'
def t_laid (K : PySem.W.Frag) : TS :=
  (tRet (tMake (He.ga K "Book") (sp_Book_init K) [] E0 (tCons (tOp rCat (tMeth (He.ga K "Book") "rules" (sp_Book_rules K) [] E0 (tVar 0) tNil) (tMeth (He.ga K "Book") "rules" (sp_Book_rules K) [] E0 (tVar 1) tNil)) tNil)))
/-! YLx: books made, laid, of which some are refused: what the callers see. -/
open PySem PySem.Spec PyProof.Rows L2
theorem g_isK {K : PySem.W.Frag} {H : Hp} {Q : VK} {a : Addr} {x y : Str} {fs : List (Str × V)} {L : List Str} (he : exErrs L K = true) (h : ExAt K H a x fs) (mx : x ∈ L) (my : y ∈ (("StayError" : Str) :: L)) (q : Q (.bl (subE x y)) H) : rIsK K [.ref a, .ref (He.ga K y)] H Q :=
  ⟨a, x, fs, _, _, subE x y, rfl, h, fun u r => r, (Errs.two he mx my).2, q⟩
theorem g_isKV {K : PySem.W.Frag} {H : Hp} {Q : VK} {a : Addr} {x : Str} {fs : List (Str × V)} {L : List Str} (he : exErrs L K = true) (h : ExAt K H a x fs) (mx : x ∈ L) (q : Q (.bl true) H) : rIsK K [.ref a, .ty "ValueError"] H Q :=
  ⟨a, x, fs, _, _, true, rfl, h, fun u r => r, Errs.val he mx, q⟩
theorem exAt_bare {K : PySem.W.Frag} {H : Hp} {a : Addr} {x : Str} {L : List Str} (he : exErrs L K = true) (mx : x ∈ L) : ExAt K (upd H a (exK a (.ref (He.ga K x)) none)) a x [] := ⟨Errs.err he mx, .inl ⟨rfl, upd_same⟩⟩
theorem exAt_fld {K : PySem.W.Frag} {H : Hp} {a dd : Addr} {x : Str} {fs : List (Str × V)} {L : List Str} (he : exErrs L K = true) (mx : x ∈ L) (hd : H dd = some (.xd fs)) (ha : H a = none) : ExAt K (upd H a (exK a (.ref (He.ga K x)) (some dd))) a x fs :=
  ⟨Errs.err he mx, .inr ⟨dd, upd_same, at_new ha hd⟩⟩
/-- the clause takes it -/
theorem w_take {K : PySem.W.Frag} {x y : Str} {L : List Str} {d : Option Addr} {i : Nat} {ts : TS} {Wout : WX} {D : Ends} {σ : L2.St} {H : Hp} (he : exErrs L K = true) (mx : x ∈ L) (my : y ∈ (("StayError" : Str) :: L)) (hs : subE x y = true)
    (q : ∀ a, Fr H a → ts { nx := fun τ H' => D.nx (τ.set i none) H', rt := D.rt, bk := fun τ H' => D.bk (τ.set i none) H', ct := fun τ H' => D.ct (τ.set i none) H' } (σ.set i (some (.ref a))) (upd H a (exK a (.ref (He.ga K x)) d))) : wKp K (.ref (He.ga K y)) i ts Wout D (.ref (He.ga K x)) d σ H :=
  ⟨true, by rw [(Errs.two he mx my).1, hs], fun _ => q, fun h => by cases h⟩
theorem g_tryK {K : PySem.W.Frag} {c : Value} {i : Nat} {tb : WX → TS} {ts : TS} {Wout : WX} {D : Ends} {σ : L2.St} {H : Hp} (h : tb (wKp K c i ts Wout D) D σ H) : tTryK K c i tb ts Wout D σ H := h
theorem g_tMakeX {C : Addr} {sp : Sp} {dvs : List V} {W : WX} {t : TA} {σ : L2.St} {H : Hp} {Q : VK} (h : t σ H fun vs H1 => rMake C sp dvs (WE W σ) vs H1 Q) : tMakeX C sp dvs W t σ H Q := h
theorem g_callX {sp : Sp} {dvs : List V} {W : WX} {t : TA} {σ : L2.St} {H : Hp} {Q : VK} (h : t σ H fun vs H1 => sp (vs ++ dvs) H1 Q (WE W σ)) : tCallX sp dvs W t σ H Q := h
theorem g_tRaiseI {K : PySem.W.Frag} {x f : Str} {W : WX} {te : TE} {D : Ends} {σ : L2.St} {H : Hp} (c : exInit x f K = true) (h : te σ H fun y H1 => rRaiseI K x f W σ y H1) : tRaiseI K x f W te D σ H := ⟨c, h⟩
theorem exAt_new {K : PySem.W.Frag} {H : Hp} {p a : Addr} {o : HO} {x : Str} {fs : List (Str × V)} (hp : Fr H p) (h : ExAt K H a x fs) : ExAt K (upd H p o) a x fs := h.same (same_new hp)
/-- e.f of a kept error -/
def rXat (K : PySem.W.Frag) (f : Str) (v : V) (H1 : Hp) (Q : VK) : Prop := ∃ (a : Addr) (x : Str) (fs : List (Str × V)) (y : V), v = .ref a ∧ ExAt K H1 a x fs ∧ PySem.W.findIn K (.ref (He.ga K x)) f = some none ∧ fs.lookup f = some y ∧ Q y H1
theorem g_xat0 {K : PySem.W.Frag} {te : TE} {f : Str} {σ : L2.St} {H : Hp} {Q : VK} (q : te σ H fun v H1 => rXat K f v H1 Q) : tXat K te f σ H Q := q
theorem g_xat {K : PySem.W.Frag} {f : Str} {H : Hp} {Q : VK} {a : Addr} {x : Str} {y : V} (h : ExAt K H a x [(f, y)]) (ci : exInit x f K = true) (q : Q y H) : rXat K f (.ref a) H Q := ⟨a, x, _, y, rfl, h, (exInit_ok ci).2.1, by simp [List.lookup], q⟩
theorem ite_subF {x y : Str} {A B : Prop} (h : subE x y = false) (q : B) : if subE x y = true then A else B := ite_f h q
theorem ite_subT {x y : Str} {A B : Prop} (h : subE x y = true) (q : A) : if subE x y = true then A else B := ite_t h q
theorem ats_rus {H : Hp} : ∀ {xs : List V} {rs : List RuleD}, Rus H xs rs → Paired (At H []) xs (rs.map RuleD.told)
  | _, _, .nil => .nil
  | _, _, .cons r t => .cons r.td.at0 (ats_rus t)
theorem allR_of {rs : List RuleD} (g : ∀ r ∈ rs, RuleD.good r) : AllR (rs.map RuleD.told) rs := by
  unfold AllR
  rw [List.map_map]
  exact List.map_congr_left fun r hr => asRule_told (g r hr)
theorem allR_inj {ds : List PyData} {rs us : List RuleD} (h : AllR ds rs) (k : AllR ds us) : rs = us := by
  unfold AllR at h k
  rw [h] at k
  exact (List.map_inj_right fun _ _ e => Option.some.inj e).mp k
theorem g_mkBookX {K : PySem.W.Frag} {E : XK} {H : Hp} {Q : VK} {vs dvs : List V} {y : V} {xs : List V} {ds : List PyData} (c : CFR K) (cb : CFB K) (cn : exInit "NoRule" "number" K = true) (cm : exBare "TooMany" K = true) (e : vs ++ dvs = [y]) (h : (y = .non ∧ xs = []) ∨ ∃ p, y = .ref p ∧ SqL K H p xs) (hp : Paired (At H []) xs ds) (hl : ds.length ≤ 1000)
    (q1 : ∀ i d dd H', ds[i]? = some d → asRule d = none → (∃ rs, AllR (ds.take i) rs) → Same H H' → H' dd = some (.xd [("number", .int (i : Nat))]) → E (.ref (He.ga K "NoRule")) (some dd) H')
    (q2 : ∀ rs H', AllR ds rs → 24 < rs.length → Same H H' → E (.ref (He.ga K "TooMany")) none H')
    (q : ∀ rs v F H', AllR ds rs → rs.length ≤ 24 → Same H H' → BookAt K H' F v rs → (∀ p ∈ F, Fr H p) → Q v H') : rMake (He.ga K "Book") (spx_Book_init K) dvs E vs H Q := by
  intro a dx ha hd hne
  have h1 : upd H dx (.own a) a = none := by rw [upd_ne hne.symm]; exact ha
  have sm : Same H (upd (upd H dx (.own a)) a (.ins (He.ga K "Book") dx [])) := (same_new hd).trans (same_new h1)
  have sk : ∀ H', Kp [a] (upd (upd H dx (.own a)) a (.ins (He.ga K "Book") dx [])) H' → Same H H' := fun H' k p o z => k _ _ (sm _ _ z) fun m => by
    rw [List.mem_singleton.mp m, ha] at z
    cases z
  rw [e]
  refine ⟨_, _, rfl, c, cb, cn, cm, a, dx, xs, ds, rfl, upd_same, ?_, Paired.mapP hp fun _ _ r => (r.same sm).add fun xs => ⟨by rw [upd_same]; simp, by rw [upd_same]; simp⟩, hl, ?_, ?_, ?_⟩
  · rcases h with h | ⟨p, h1, h2⟩
    · exact .inl h
    · exact .inr ⟨p, h1, Same.seq sm h2⟩
  · exact fun i d dd H' h1 h2 h3 k h4 => q1 i d dd H' h1 h2 h3 (sk H' k) h4
  · exact fun rs H' h1 h2 k => q2 rs H' h1 h2 (sk H' k)
  · exact fun rs H' F h1 h2 k b f => ⟨rfl, q rs _ F H' h1 h2 (sk H' k) b fun p hp => Same.free sm (f p hp)⟩
/-- rules alone: perhaps too many -/
theorem g_mkBookM {K : PySem.W.Frag} {E : XK} {H : Hp} {Q : VK} {vs dvs : List V} {p : Addr} {xs : List V} {rs : List RuleD} (c : CFR K) (cb : CFB K) (cn : exInit "NoRule" "number" K = true) (cm : exBare "TooMany" K = true) (e : vs ++ dvs = [.ref p]) (h : SqL K H p xs) (hp : Rus H xs rs) (hg : ∀ r ∈ rs, RuleD.good r) (hl : rs.length ≤ 1000)
    (q2 : 24 < rs.length → ∀ H', Same H H' → E (.ref (He.ga K "TooMany")) none H')
    (q : rs.length ≤ 24 → ∀ v F H', Same H H' → BookAt K H' F v rs → (∀ p ∈ F, Fr H p) → Q v H') : rMake (He.ga K "Book") (spx_Book_init K) dvs E vs H Q := by
  have al := allR_of hg
  refine g_mkBookX c cb cn cm e (.inr ⟨p, rfl, h⟩) (ds := rs.map RuleD.told) (ats_rus hp) (by rw [List.length_map]; exact hl) (fun i d dd H' h1 h2 => ?_) (fun us H' h1 h2 s => ?_) fun us v F H' h1 h2 s b f => ?_
  · rw [List.getElem?_map] at h1
    cases e : rs[i]? with
    | none => rw [e] at h1; cases h1
    | some r =>
      rw [e] at h1
      obtain rfl : r.told = d := Option.some.inj h1
      rw [asRule_told (hg r (List.mem_of_getElem? e))] at h2
      cases h2
  · obtain rfl := allR_inj al h1
    exact q2 h2 H' s
  · obtain rfl := allR_inj al h1
    exact q h2 v F H' s b f
def spx_laid (K : PySem.W.Frag) : Sp := Sp2 fun v u H Q E => CFR K ∧ CFB K ∧ exInit "NoRule" "number" K = true ∧ exBare "TooMany" K = true ∧ ∃ F1 r1 F2 r2, BookAt K H F1 v r1 ∧ BookAt K H F2 u r2 ∧ r1.length ≤ 24 ∧ r2.length ≤ 24 ∧ (∀ r ∈ r1, RuleD.good r) ∧ (∀ r ∈ r2, RuleD.good r) ∧
  (24 < r1.length + r2.length → ∀ H', Same H H' → E (.ref (He.ga K "TooMany")) none H') ∧
  (r1.length + r2.length ≤ 24 → ∀ x F H', Same H H' → BookAt K H' F x (r1 ++ r2) → (∀ p ∈ F, Fr H p) → Q x H')
theorem gx_laid {K : PySem.W.Frag} {F1 F2 : List Addr} {r1 r2 : List RuleD} {v u : V} {H : Hp} {Q : VK} {E : XK} (c : CFR K) (cb : CFB K) (cn : exInit "NoRule" "number" K = true) (cm : exBare "TooMany" K = true) (b1 : BookAt K H F1 v r1) (b2 : BookAt K H F2 u r2) (l1 : r1.length ≤ 24) (l2 : r2.length ≤ 24) (g1 : ∀ r ∈ r1, RuleD.good r) (g2 : ∀ r ∈ r2, RuleD.good r)
    (q2 : 24 < r1.length + r2.length → ∀ H', Same H H' → E (.ref (He.ga K "TooMany")) none H')
    (q : r1.length + r2.length ≤ 24 → ∀ x F H', Same H H' → BookAt K H' F x (r1 ++ r2) → (∀ p ∈ F, Fr H p) → Q x H') : spx_laid K ([v, u] ++ []) H Q E := ⟨_, _, rfl, c, cb, cn, cm, F1, r1, F2, r2, b1, b2, l1, l2, g1, g2, q2, q⟩
def x_laid (K : PySem.W.Frag) (E : XK) : TS :=
  (tRet (tMakeX (He.ga K "Book") (spx_Book_init K) [] (XW E) (tCons (tOp rCat (tMeth (He.ga K "Book") "rules" (sp_Book_rules K) [] E0 (tVar 0) tNil) (tMeth (He.ga K "Book") "rules" (sp_Book_rules K) [] E0 (tVar 1) tNil)) tNil)))
theorem purex_laid {K : PySem.W.Frag} {v u : V} {H : Hp} {Q : VK} {E : XK} (h : spx_laid K [v, u] H Q E) : x_laid K E { nx := fun _ H' => Q .non H', rt := Q } [some v, some u] H := by
  obtain ⟨v, u, e, c, cb, cn, cm, F1, r1, F2, r2, b1, b2, l1', l2', g1, g2, q2, q⟩ := h
  cases e
  unfold x_laid
  walk_at "ss"
  rename_i p1 H1 y1 s1 f1 a1 R1 p2 H2 y2 s2 f2 a2 R2
  have l1 := ru_len R1
  have l2 := ru_len R2
  walk_at "ss"
  rename_i p3 hp3
  refine g_mkBookM c cb cn cm rfl (SqL.of upd_same) (ru_app (ru_new hp3 (ru_same s2 R1)) (ru_new hp3 R2)) (gd_app g1 g2) (by rw [List.length_append]; omega) (fun l H' s => ?_) fun l x F H3 s3 bk ff => ?_
  · rw [List.length_append] at l
    exact q2 l _ (by walk_at "sm")
  · rw [List.length_append] at l
    walk_at "ss"
    exact q l x F H3 (by walk_at "sm") bk fun p hp => fr_of (ff p hp) (by walk_at "sm")
/-! YLt: data < data (alike data), the order of (number, (number, number)). -/
open PySem PySem.Spec PyProof.Rows L2
def rLtD (K : PySem.W.Frag) : R2 := fun x y H Q => ∃ d e, Dp K H x d ∧ Dp K H y e ∧ PySem.W.alike d e = true ∧ d ≠ .none ∧ d.depth ≤ 60 ∧ Q (.bl (PySem.W.dataLt d e)) H
/-! YBk: books that stand somewhere, days from one to another. -/
open PySem PySem.Spec PyProof.Rows L2
theorem days_mem {c g n : Int} (h : n ∈ days c g) : c ≤ n ∧ n < g := by
  unfold days at h
  obtain ⟨i, hi, rfl⟩ := List.mem_map.mp h
  have := List.mem_range.mp hi
  omega
theorem mem_days {c g n : Int} : n ∈ days c g ↔ c ≤ n ∧ n < g := by
  refine ⟨days_mem, fun h => ?_⟩
  unfold days
  exact List.mem_map.mpr ⟨(n - c).toNat, List.mem_range.mpr (by omega), by omega⟩
/-- a book stands at v -/
def BkAt (K : PySem.W.Frag) (H : Hp) (v : V) (rs : List RuleD) : Prop := ∃ F, BookAt K H F v rs
theorem BkAt.same {K : PySem.W.Frag} {H H' : Hp} {v : V} {rs : List RuleD} (s : Same H H') (h : BkAt K H v rs) : BkAt K H' v rs := let ⟨F, b⟩ := h; ⟨F, bk_same s b⟩
def GoodB (bs : List (List RuleD)) : Prop := ∀ rs ∈ bs, ∀ r ∈ rs, RuleD.good r
def StayB (c g : Int) : Prop := 0 ≤ c ∧ c < g ∧ g ≤ c + 14 ∧ g ≤ 1000000
theorem while_m {c : TT} {tb : TS} {D : Ends} {σ : L2.St} {H : Hp} (W : Nat → L2.St → Hp → Prop) {m0 : Nat} (h0 : W m0 σ H)
    (hs : ∀ m σ H, W m σ H → c σ H fun b H1 => if b = true then tb { D with nx := fun σ' H' => ∃ m', m' < m ∧ W m' σ' H', ct := fun σ' H' => ∃ m', m' < m ∧ W m' σ' H', bk := D.nx } σ H1 else D.nx σ H1)
    (mono : ∀ σ H Q Q', (∀ b H1, Q b H1 → Q' b H1) → c σ H Q → c σ H Q') : tWhile c tb D σ H := by
  refine ⟨W, ⟨m0, h0⟩, fun m σ H w => ?_⟩
  refine mono σ H _ _ (fun b H1 q => ?_) (hs m σ H w)
  cases b with
  | true => exact ⟨_, fun _ _ h => h, q⟩
  | false => exact q
/-! YHo: hindrances (as in YHn), of the program alone. -/
open PySem PySem.Spec PyProof.Rows L2
def hD (h : Int × Wd × Int) : PyData := .tuple [.int h.1, .str h.2.1.word, .int h.2.2]
def hindB (rs : List RuleD) (w : Wd) (c g d : Int) : Bool := match w with
  | .price => !soldB rs d | .come => !comeB rs .come d | .go => !comeB rs .go d | .least => decide (1 < numI rs .least d) | .most => decide (numI rs .most d < g - d) | _ => false
def hindP (rs : List RuleD) (w : Wd) (c g d : Int) : Bool := if w = .go then decide (c < d) && hindB rs w c g d else !decide (d = g) && hindB rs w c g d
def daysW (w : Wd) (c g : Int) : List Int := if w = .go then days (c + 1) (g + 1) else days c g
def rowW (k : Int) (rs : List RuleD) (c g : Int) (w : Wd) : List (Int × Wd × Int) := ((daysW w c g).filter (hindB rs w c g)).map fun d => (k, w, d)
abbrev wH : List Wd := [.price, .come, .go, .least, .most]
def rowB (k : Int) (rs : List RuleD) (c g : Int) : List (Int × Wd × Int) := wH.flatMap (rowW k rs c g)
def hindAll (c g : Int) : Int → List (List RuleD) → List (Int × Wd × Int)
  | _, [] => []
  | k, rs :: r => rowB k rs c g ++ hindAll c g (k + 1) r
def sp_hinders (K : PySem.W.Frag) : Sp := Sp4 fun v u d y H Q E => CFR K ∧ CFB K ∧ ∃ (rs : List RuleD) (w : Wd) (day : Int) (a : Addr) (c g : Int), BkAt K H v rs ∧ (∀ r ∈ rs, RuleD.good r) ∧ w ∈ wH ∧ u = .str w.word ∧ d = .int day ∧ y = .ref a ∧ SqT K H a [.int c, .int g] ∧ ∀ H', Same H H' → Q (.bl (hindP rs w c g day)) H'
def sp_hindrances (K : PySem.W.Frag) : Sp := Sp2 fun v y H Q E => CFR K ∧ CFB K ∧ exHind K = true ∧ ∃ (p : Addr) (vs : List V) (bs : List (List RuleD)) (a : Addr) (c g : Int), v = .ref p ∧ SqL K H p vs ∧ Paired (BkAt K H) vs bs ∧ GoodB bs ∧ bs.length ≤ 10 ∧ y = .ref a ∧ SqT K H a [.int c, .int g] ∧ StayB c g ∧
  ∀ (q : Addr) (ys : List V) (H' : Hp), Same H H' → Fr H q → H' q = some (.lst ys) → Tds H' ys ((hindAll c g 0 bs).map hD) → Q (.ref q) H'
/-! YHl: what holds a stay off: the plain law. -/
open PySem PySem.Spec PyProof.Rows L2
abbrev Hi := Int × Wd × Int
/-- whether a book lets a stay be had with some hindrances in force -/
def letsP (rs : List RuleD) (k : Int) (P : Hi → Bool) (b e : Int) : Bool :=
  !P (k, .come, b) && (!P (k, .go, e) && (!(P (k, .least, b) && decide (e - b < numI rs .least b)) && (!(P (k, .most, b) && decide (numI rs .most b < e - b)) && (days b e).all fun d => !P (k, .price, d))))
/-- whether one of the books does -/
def someP (bs : List (List RuleD)) (P : Hi → Bool) (b e : Int) : Bool := (List.range bs.length).any fun i => letsP (bs.getD i []) (i : Int) P b e
/-- stays one behind another, each of which one lets be had -/
inductive Road (S : Int → Int → Bool) (g : Int) : Int → Int → Prop
  | nil (a : Int) : Road S g a a
  | cons {a b c : Int} : a < b → b ≤ g → S a b = true → Road S g b c → Road S g a c
open Classical in
/-- whether roads lead through -/
noncomputable def leadsB (S : Int → Int → Bool) (c g : Int) : Bool := decide (Road S g c g)
open Classical in
/-- what a stay is held off by -/
noncomputable def heldB (bs : List (List RuleD)) (c g : Int) (P : Hi → Bool) : Bool := !leadsB (someP bs P) c g
/-! YSj: sorted of a list of tuples (stay, number); max with a default. -/
open PySem PySem.Spec PyProof.Rows L2
/-- a tuple of a pair and a number -/
def SjAt (H : Hp) (v : V) (q : Pr × Int) : Prop := ∃ t x, v = .ref t ∧ H t = some (.tup [x, .int q.2]) ∧ PrAt H x q.1
abbrev SjsAt (H : Hp) (xs : List V) (qs : List (Pr × Int)) : Prop := Paired (SjAt H) xs qs
def sjD (q : Pr × Int) : PyData := .tuple [prD q.1, .int q.2]
abbrev VJ := V × (Pr × Int)
/-- the tuples sorted -/
def sortJ (qs : List (Pr × Int)) : List (Pr × Int) := qs.mergeSort (PySem.W.dataLe false sjD)
/-- sorted(xs), xs a list of tuples (stay, number): the stays' first days rise -/
def rSortJ (K : PySem.W.Frag) : List V → Hp → VK → Prop := fun vs H Q => ∃ (a : Addr) (xs : List V) (qs : List (Pr × Int)), vs = [V.ref a] ∧ SqL K H a xs ∧ SjsAt H xs qs ∧
  ∀ (ys : List V) (p : Addr), Fr H p → SjsAt H ys (sortJ qs) → Q (.ref p) (upd H p (.lst ys))
def rMaxD (K : PySem.W.Frag) : List V → List V → Hp → VK → Prop := fun vs zs H Q => ∃ (a : Addr) (ns : List Int) (d : Int), vs = [.ref a] ∧ zs = [.int d] ∧ SqL K H a (ns.map V.int) ∧ (ns = [] → Q (.int d) H) ∧ ∀ m, m ∈ ns → (∀ x ∈ ns, x ≤ m) → Q (.int m) H
/-! YDe: rooms dealt in turn (plain). -/
open PySem PySem.Spec PyProof.Rows L2
/-- the first room that is free on a day -/
def freeR : List Int → Int → Nat
  | [], _ => 0
  | u :: us, c => if u ≤ c then 0 else freeR us c + 1
def putR (us : List Int) (c g : Int) : List Int := if freeR us c < us.length then us.set (freeR us c) g else us ++ [g]
def disj (p q : Pr × Nat) : Prop := p.2 = q.2 → p.1.2 ≤ q.1.1 ∨ q.1.2 ≤ p.1.1
def cov (d : Int) (p : Pr × Nat) : Bool := decide (p.1.1 ≤ d) && decide (d < p.1.2)
/-- what holds of the stays that have rooms -/
structure Dealt (us : List Int) (D : List (Pr × Nat)) : Prop where
  len : ∀ p ∈ D, p.2 < us.length
  top : ∀ p ∈ D, ∀ x, us[p.2]? = some x → p.1.2 ≤ x
  att : ∀ r x, us[r]? = some x → ∃ p ∈ D, p.2 = r ∧ p.1.2 = x
  dis : D.Pairwise disj
  peak : us.length = 0 ∨ ∃ d, us.length ≤ D.countP (cov d)
/-- the rooms of stays in turn -/
def dealR : List Pr → List Int → List Nat
  | [], _ => []
  | p :: ps, us => freeR us p.1 :: dealR ps (putR us p.1 p.2)
def endR : List Pr → List Int → List Int
  | [], us => us
  | p :: ps, us => endR ps (putR us p.1 p.2)
/-- what the law asks of the stays with their rooms -/
structure Rooms (n : Nat) (D : List (Pr × Nat)) : Prop where
  use : ∀ r, r < n ↔ ∃ p ∈ D, p.2 = r
  dis : D.Pairwise disj
  most : ∀ d, D.countP (cov d) ≤ n
  peak : n = 0 ∨ ∃ d, D.countP (cov d) = n
/-! ### the rooms laid at their stays' places -/
/-! YDw: dealt, walked. -/
open PySem PySem.Spec PyProof.Rows L2
def enumJ (ps : List Pr) : List (Pr × Int) := (List.range ps.length).map fun i => (ps.getD i (0, 0), (i : Int))
def DealtF (ps : List Pr) (F : List Nat) : Prop := F.length = ps.length ∧ ∀ (k : Nat) (q : Pr × Int), (sortJ (enumJ ps))[k]? = some q → F[q.2.toNat]? = (dealR ((sortJ (enumJ ps)).map (·.1)) [])[k]?
def rmV (F : List Nat) : List V := F.map fun k => V.int (k : Nat)
def sp_dealt (K : PySem.W.Frag) : Sp := Sp1 fun x H Q E => ∃ (a : Addr) (xs : List V) (ps : List Pr), x = .ref a ∧ SqL K H a xs ∧ PrsAt H xs ps ∧ ps.length ≤ 1000 ∧ ∀ (p : Addr) (H' : Hp) (F : List Nat), Same H H' → Fr H p → H' p = some (.lst (rmV F)) → DealtF ps F → Q (.ref p) H'
def t_dealt (K : PySem.W.Frag) : TS :=
  (tSeq (tAsg (tLst tNil) (gName 1))
  (tSeq (tAsg (tLc (iList K (tVar 0)) (gName 2) tYes (tC (.int 0)) [2]) (gName 3))
  (tSeq (tFor (iList K (tCB (Y.rSortJ K) (tCons (tLc (iEnum K (tCons (tVar 0) tNil)) (gTup K 2 (gCons (gName 4) (gCons (gName 2) gNil))) tYes (tTup (tCons (tVar 2) (tCons (tVar 4) tNil))) [4, 2]) tNil))) (gTup K 2 (gCons (gName 2) (gCons (gName 4) gNil)))
  (tSeq (tAsg (tC (.int 0)) (gName 5))
  (tSeq (tWhile (tAnd (tTest (tOp rLt (tVar 5) (tCB (rLen K) (tCons (tVar 1) tNil)))) (tTest (tOp rGt (tOp (rIxL K) (tVar 1) (tVar 5)) (tOp (rIxT K) (tVar 2) (tC (.int 0))))))
  (tAsg (tOp rAdd (tVar 5) (tC (.int 1))) (gName 5)))
  (tSeq (tIfS (tTest (tOp rEq (tVar 5) (tCB (rLen K) (tCons (tVar 1) tNil))))
  (tDrop (tBM K "list" rAppend (tVar 1) (tCons (tC (.int 0)) tNil)))
  tNext)
  (tSeq (tAsg (tOp (rIxT K) (tVar 2) (tC (.int 1))) (gSub (tVar 1) (tVar 5) rSetL))
  (tAsg (tVar 5) (gSub (tVar 3) (tVar 4) rSetL)))))))
  (tRet (tVar 3)))))
/-! YIa: fields as targets, == [] of any list, sorted(d.items()) and list(zip(..)) of nothing. -/
open PySem PySem.Spec PyProof.Rows L2
/-- a field as one of several targets -/
def gFld (K : PySem.W.Frag) (to : TE) (f : Str) : TG := fun v σ H Q => to σ H fun x H1 => ∃ a C dx fs, x = .ref a ∧ H1 a = some (.ins C dx fs) ∧ Cls K C ∧ NoAttr K C f ∧ fs.length < 1000 ∧ Q σ (upd H1 a (.ins C dx (putF f v fs)))
theorem pg_fld {X : Cx} {o : Expr} {f : Str} {pos : Pos} {to : TE} (ho : PE X o to) : PG X (.Attribute o f pos) (gFld X.K to f) := by
  refine ⟨fun pins s σ H v u Q I r h => ?_⟩
  rw [assign_Attribute]
  refine wpAny_bind (wpAny_holding (thn (ho.run pins s σ H _ I h) fun ov s1 ⟨x, H1, I1, r1, a, C, dx, fs, ex, ea, c, n, l, q⟩ => ?_))
  subst ex
  obtain rfl : ov = Value.ref a := r1
  refine wpAny_bind (wpAny_standAt (wpAny_bind (wpAny_holding (setattr_ok I1 ea c n l r fun s2 I2 => ?_))))
  exact wpAny_release ⟨σ, _, I2, q⟩
/-- xs == [] -/
def rEqE (K : PySem.W.Frag) : R2 := fun x y H Q => ∃ (p q : Addr) (xs : List V), x = .ref p ∧ y = .ref q ∧ SqL K H p xs ∧ SqL K H q [] ∧ Q (.bl (decide (xs = []))) H
theorem op_eqE {X : Cx} (hu : X.A.units + 64 < cLine) : OpR X (compareOp .Eq) (rEqE X.K) := by
  intro pins s σ H x y v u Q I rx ry h
  obtain ⟨a, b, xs, rfl, rfl, ha, hb, q⟩ := h
  cases (show v = Value.ref a from rx)
  cases (show u = Value.ref b from ry)
  obtain ⟨us, r1, p1, _⟩ := I.list ha
  obtain ⟨ws, r2, p2, _⟩ := I.list hb
  cases r2
  by_cases z : xs = []
  · subst z
    cases r1
    have := SeqAt.RcAt.lists (A := X.A) (s := s) (e := fun _ => true) p1.isList p2.isList rfl (by omega) (fun j h1 _ => absurd h1 (Nat.not_lt_zero _))
    exact this X.prog X.w _ _ ⟨.bl true, H, I, rfl, by simpa using q⟩
  · have := SeqAt.RcAt.lists_lengths (A := X.A) (s := s) p1.isList p2.isList (by
      have l := r1.length
      have : 0 < xs.length := List.length_pos_iff.mpr z
      rw [bne_iff_ne]
      intro e
      have : us.length = 0 := by simpa using e
      omega) (by omega)
    rw [decide_eq_false z] at q
    exact this X.prog X.w _ _ ⟨.bl false, H, I, rfl, q⟩
/-- sorted(d.items()), d empty -/
def tSortItems0 (te : TE) : TE := fun σ H Q => te σ H fun x H1 => ∃ d, x = .ref d ∧ H1 d = some (.dK []) ∧ ∀ p, Fr H1 p → Q (.ref p) (upd H1 p (.lst []))
section
variable {P : Program} {w : World} {A : Around} {E : Value → Shared → Prop} {s : Shared}
end
/-- list(zip(xs, ys)), xs without items -/
def tListZip0 (K : PySem.W.Frag) (ta : TA) : TE := fun σ H Q => ta σ H fun vs H1 => ∃ a b ys, vs = [.ref a, .ref b] ∧ SqL K H1 a [] ∧ SqL K H1 b ys ∧ ∀ p, Fr H1 p → Q (.ref p) (upd H1 p (.lst []))
/-! YNa: an inn in the heap (no stay taken), its state. -/
open PySem PySem.Spec PyProof.Rows L2
/-- what may change: lists, dicts, inns -/
def MutO (o : HO) : Prop := (∃ xs, o = .lst xs) ∨ (∃ kvs, o = .dK kvs) ∨ ∃ C dx i fs, o = .ins C dx (("many", i) :: fs)
def Muts (H : Hp) (L : List Addr) : Prop := ∀ m ∈ L, ∀ o, H m = some o → MutO o
theorem muts_nil {H : Hp} : Muts H [] := fun m hm => nomatch hm
theorem muts_tape {H : Hp} {t b s : Addr} (T : Tape H t b s) : Muts H [t, b] := fun m hm o e => by
  obtain ⟨rfl, rfl, x, y, h, -⟩ := T
  have : m = t := by simpa using hm
  rw [this, h] at e
  cases e
  exact .inl ⟨_, rfl⟩
theorem muts_one {H : Hp} {p : Addr} {xs : List V} (h : H p = some (.lst xs)) : Muts H [p] := fun m hm o e => by
  rw [List.mem_singleton.mp hm, h] at e
  cases e
  exact .inl ⟨_, rfl⟩
theorem mut_tup {ys : List V} (h : MutO (.tup ys)) : False := by
  rcases h with ⟨_, e⟩ | ⟨_, e⟩ | ⟨_, _, _, _, e⟩ <;> cases e
theorem mut_ins {C dx : Addr} {f : Str} {i : V} {fs : List (Str × V)} (n : f ≠ "many") (h : MutO (.ins C dx ((f, i) :: fs))) : False := by
  rcases h with ⟨_, e⟩ | ⟨_, e⟩ | ⟨_, _, _, _, e⟩
  · cases e
  · cases e
  · injection e with _ _ e
    injection e with e _
    exact n (Prod.mk.inj e).1
theorem tk_mut {H H' : Hp} {L : List Addr} (k : Kp L H H') (m : Muts H L) : Tk H H' := fun a ys e => k _ _ e fun h => mut_tup (m a h _ e)
theorem rule_mut {K : PySem.W.Frag} {H H' : Hp} {L : List Addr} {v : V} {r : RuleD} (k : Kp L H H') (m : Muts H L) (h : RuleAt K H v r) : RuleAt K H' v r := by
  obtain ⟨a, dx, wv, rfl, h, q⟩ := h
  exact ⟨a, dx, wv, rfl, k _ _ h fun z => mut_ins (by decide) (m a z _ h), q.tk (tk_mut k m)⟩
theorem bk_mut {K : PySem.W.Frag} {H H' : Hp} {L F : List Addr} {v : V} {rs : List RuleD} (k : Kp L H H') (m : Muts H L) (n : ∀ p ∈ F, p ∉ L) (h : BookAt K H F v rs) : BookAt K H' F v rs := by
  obtain ⟨a, dx, lk, nd, kvs, nw, rfl, rfl, B⟩ := h
  obtain ⟨ks, h1, h2⟩ := B.kept
  refine ⟨a, dx, lk, nd, kvs, nw, rfl, rfl, k _ _ B.obj fun z => mut_ins (by decide) (m a z _ B.obj), ⟨ks, k _ _ h1 (n _ (by simp [BookF])), Paired.mapP h2 fun _ _ q => rule_mut k m q⟩, k _ _ B.dic (n _ (by simp [BookF])), B.small, B.key, fun w p hp => ?_, B.none', B.inj, B.ne⟩
  obtain ⟨xs, h3, h4⟩ := B.here w p hp
  exact ⟨xs, k _ _ h3 (n _ (bookF_mem hp)), Paired.mapP h4 fun _ _ q => rule_mut k m q⟩
/-! ### shelves -/
abbrev Shf := List (Str × List RuleD)
structure ShOk (sh : Shf) : Prop where
  nd : (sh.map (·.1)).Nodup
  len : ∀ e ∈ sh, e.2.length ≤ 24
  good : ∀ e ∈ sh, ∀ r ∈ e.2, RuleD.good r
  few : sh.length ≤ 10
def ShAt (K : PySem.W.Frag) (H : Hp) (W : List Addr) (kvs : List (Key × V)) (sh : Shf) : Prop := Paired (fun kv e => kv.1 = .inr e.1 ∧ ∃ F, BookAt K H F kv.2 e.2 ∧ ∀ p ∈ F, p ∈ W) kvs sh
theorem ShAt.mut {K : PySem.W.Frag} {H H' : Hp} {L W : List Addr} {kvs : List (Key × V)} {sh : Shf} (k : Kp L H H') (m : Muts H L) (n : ∀ p ∈ W, p ∉ L) (h : ShAt K H W kvs sh) : ShAt K H' W kvs sh :=
  Paired.mapP h fun _ _ ⟨e, F, b, f⟩ => ⟨e, F, bk_mut k m (fun p hp => n p (f p hp)) b, f⟩
theorem ShAt.wide {K : PySem.W.Frag} {H : Hp} {W W' : List Addr} {kvs : List (Key × V)} {sh : Shf} (w : ∀ p ∈ W, p ∈ W') (h : ShAt K H W kvs sh) : ShAt K H W' kvs sh :=
  Paired.mapP h fun _ _ ⟨e, F, b, f⟩ => ⟨e, F, b, fun p hp => w p (f p hp)⟩
def lookS (sh : Shf) (n : Str) : Option (List RuleD) := (sh.find? fun e => decide (e.1 = n)).map (·.2)
def putS (sh : Shf) (n : Str) (rs : List RuleD) : Shf := if (sh.any fun e => decide (e.1 = n)) = true then sh.map (fun e => if e.1 = n then (e.1, rs) else e) else sh ++ [(n, rs)]
theorem sh_get {K : PySem.W.Frag} {H : Hp} {W : List Addr} : ∀ {kvs : List (Key × V)} {sh : Shf} (n : Str), ShAt K H W kvs sh → (lookS sh n = none ∧ valV kvs (.inr n) = none) ∨ ∃ rs v F, lookS sh n = some rs ∧ (n, rs) ∈ sh ∧ valV kvs (.inr n) = some v ∧ BookAt K H F v rs ∧ ∀ p ∈ F, p ∈ W
  | _, _, n, .nil => .inl ⟨rfl, rfl⟩
  | (k, v) :: kvs, (m, rs) :: sh, n, .cons ⟨e, F, b, f⟩ t => by
    have e : k = .inr m := e
    subst e
    by_cases z : m = n
    · subst z
      exact .inr ⟨rs, v, F, by simp [lookS, List.find?_cons], List.mem_cons_self, valV_pos rfl, b, f⟩
    · have z2 : ¬ ((.inr m : Key) = .inr n) := fun e => z (Sum.inr.inj e)
      have e1 : lookS ((m, rs) :: sh) n = lookS sh n := by simp [lookS, List.find?_cons, z]
      rw [valV_neg (p := ((.inr m : Key), v)) z2, e1]
      rcases sh_get (K := K) (H := H) (W := W) n t with h | ⟨rs', v', F', h1, hm, h2⟩
      · exact .inl h
      · exact .inr ⟨rs', v', F', h1, List.mem_cons_of_mem _ hm, h2⟩
theorem sh_any {K : PySem.W.Frag} {H : Hp} {W : List Addr} : ∀ {kvs : List (Key × V)} {sh : Shf} (n : Str), ShAt K H W kvs sh → (kvs.any fun kv => decide (kv.1 = (.inr n : Key))) = (sh.any fun e => decide (e.1 = n))
  | _, _, n, .nil => rfl
  | (k, v) :: kvs, (m, rs) :: sh, n, .cons ⟨e, _⟩ t => by
    have e : k = .inr m := e
    subst e
    rw [List.any_cons, List.any_cons, sh_any n t]
    congr 1
    by_cases z : m = n
    · simp [z]
    · have z2 : ¬ ((.inr m : Key) = .inr n) := fun e => z (Sum.inr.inj e)
      simp [z, z2]
theorem sh_map {K : PySem.W.Frag} {H : Hp} {W F : List Addr} {v : V} {rs : List RuleD} (b : BookAt K H F v rs) (f : ∀ p ∈ F, p ∈ W) : ∀ {kvs : List (Key × V)} {sh : Shf} (n : Str), ShAt K H W kvs sh → ShAt K H W (kvs.map fun kv => if kv.1 = (.inr n : Key) then (kv.1, v) else kv) (sh.map fun e => if e.1 = n then (e.1, rs) else e)
  | _, _, n, .nil => .nil
  | (k, u) :: kvs, (m, us) :: sh, n, .cons ⟨e, g⟩ t => by
    have e : k = .inr m := e
    subst e
    refine .cons ?_ (sh_map b f n t)
    by_cases z : m = n
    · subst z
      simp only [if_true]
      exact ⟨trivial, F, b, f⟩
    · have z2 : ¬ ((.inr m : Key) = .inr n) := fun e => z (Sum.inr.inj e)
      simp only [z, z2, if_false]
      exact ⟨trivial, g⟩
theorem sh_put {K : PySem.W.Frag} {H : Hp} {W F : List Addr} {v : V} {rs : List RuleD} {kvs : List (Key × V)} {sh : Shf} (b : BookAt K H F v rs) (f : ∀ p ∈ F, p ∈ W) (n : Str) (h : ShAt K H W kvs sh) : ShAt K H W (putK kvs (.inr n) v) (putS sh n rs) := by
  unfold putK putS
  rw [sh_any n h]
  split
  · exact sh_map b f n h
  · exact Paired.app h (.cons ⟨rfl, F, b, f⟩ .nil)
theorem sh_len {K : PySem.W.Frag} {H : Hp} {W : List Addr} {kvs : List (Key × V)} {sh : Shf} (h : ShAt K H W kvs sh) : kvs.length = sh.length := Paired.length h
/-! ### the inn -/
/-- past deeds: the shelf as it was, no stay, no number given -/
def PastAt (K : PySem.W.Frag) (H : Hp) (W : List Addr) (x : Addr × Addr × Addr) (sh : Shf) : Prop := H x.1 = some (.tup [.ref x.2.1, .ref x.2.2, .int 0]) ∧ (∃ kvs, H x.2.1 = some (.dK kvs) ∧ ShAt K H W kvs sh) ∧ H x.2.2 = some (.dK [])
abbrev innF (a s t p : Addr) (ps : List (Addr × Addr × Addr)) : List Addr := a :: s :: t :: p :: ps.flatMap fun x => [x.2.1, x.2.2]
abbrev innO (K : PySem.W.Frag) (dx s t p : Addr) (m : Int) : HO := .ins (He.ga K "Inn") dx [("many", .int m), ("shelf", .ref s), ("taken", .ref t), ("coming", .int 0), ("past", .ref p)]
structure InnIn (K : PySem.W.Frag) (H : Hp) (W : List Addr) (a dx s t p : Addr) (ps : List (Addr × Addr × Addr)) (m : Int) (sh : Shf) (pa : List Shf) : Prop where
  obj : H a = some (innO K dx s t p m)
  shelf : ∃ kvs, H s = some (.dK kvs) ∧ ShAt K H W kvs sh
  taken : H t = some (.dK [])
  past : H p = some (.lst (ps.map fun x => .ref x.1))
  pas : Paired (PastAt K H W) ps pa
  nd : (innF a s t p ps).Nodup
  off : ∀ x ∈ W, x ∉ innF a s t p ps
  known : ∀ x ∈ W, ∃ o, H x = some o
  ok : ShOk sh
  oks : ∀ u ∈ pa, ShOk u
def InnAt (K : PySem.W.Frag) (H : Hp) (M W : List Addr) (v : V) (m : Int) (sh : Shf) (pa : List Shf) : Prop := ∃ a dx s t p ps, v = .ref a ∧ M = innF a s t p ps ∧ InnIn K H W a dx s t p ps m sh pa
theorem pas_mut {K : PySem.W.Frag} {H H' : Hp} {L W : List Addr} (k : Kp L H H') (mu : Muts H L) (n : ∀ x ∈ W, x ∉ L) : ∀ {ps : List (Addr × Addr × Addr)} {pa : List Shf}, (∀ x ∈ ps.flatMap (fun x => [x.2.1, x.2.2]), x ∉ L) → Paired (PastAt K H W) ps pa → Paired (PastAt K H' W) ps pa
  | _, _, _, .nil => .nil
  | x :: ps, u :: pa, n3, .cons ⟨e1, ⟨kv, e2, e3⟩, e4⟩ t => by
    rw [List.flatMap_cons] at n3
    exact .cons ⟨tk_mut k mu _ _ e1, ⟨kv, k _ _ e2 (n3 _ (by simp)), e3.mut k mu n⟩, k _ _ e4 (n3 _ (by simp))⟩ (pas_mut k mu n (fun x hx => n3 x (List.mem_append_right _ hx)) t)
/-- an inn stays where none of its own is changed -/
theorem InnIn.keep {K : PySem.W.Frag} {H H' : Hp} {L W : List Addr} {a dx s t p : Addr} {ps : List (Addr × Addr × Addr)} {m : Int} {sh : Shf} {pa : List Shf} (I : InnIn K H W a dx s t p ps m sh pa) (k : Kp L H H') (mu : Muts H L) (n : ∀ x ∈ innF a s t p ps ++ W, x ∉ L) : InnIn K H' W a dx s t p ps m sh pa := by
  have n1 : ∀ x ∈ innF a s t p ps, x ∉ L := fun x hx => n x (List.mem_append_left _ hx)
  have n2 : ∀ x ∈ W, x ∉ L := fun x hx => n x (List.mem_append_right _ hx)
  obtain ⟨kvs, h1, h2⟩ := I.shelf
  refine ⟨k _ _ I.obj (n1 _ (by simp [innF])), ⟨kvs, k _ _ h1 (n1 _ (by simp [innF])), h2.mut k mu n2⟩, k _ _ I.taken (n1 _ (by simp [innF])), k _ _ I.past (n1 _ (by simp [innF])), ?_, I.nd, I.off, fun x hx => ?_, I.ok, I.oks⟩
  · exact pas_mut k mu n2 (fun x hx => n1 x (by simp only [innF, List.mem_cons]; exact .inr (.inr (.inr (.inr hx))))) I.pas
  · obtain ⟨o, e⟩ := I.known x hx
    exact ⟨o, k _ _ e (n2 x hx)⟩
theorem InnAt.keep {K : PySem.W.Frag} {H H' : Hp} {L M W : List Addr} {v : V} {m : Int} {sh : Shf} {pa : List Shf} (I : InnAt K H M W v m sh pa) (k : Kp L H H') (mu : Muts H L) (n : ∀ x ∈ M ++ W, x ∉ L) : InnAt K H' M W v m sh pa := by
  obtain ⟨a, dx, s, t, p, ps, rfl, rfl, I⟩ := I
  exact ⟨a, dx, s, t, p, ps, rfl, rfl, I.keep k mu n⟩
/-! YFb: books as if full nights were not sold. -/
open PySem PySem.Spec PyProof.Rows L2
/-- rules by which nights are not sold -/
def fullR (ns : List Int) : List RuleD := ns.map fun d => ⟨.price, d, d, .none⟩
theorem tells_full (rs : List RuleD) (w : Wd) (day : Int) : ∀ l : List Int, tellsD (rs ++ fullR l.reverse) w day = if w = .price ∧ day ∈ l then .none else tellsD rs w day
  | [] => by
    rw [if_neg (by simp)]
    simp [fullR]
  | d :: l => by
    have e : rs ++ fullR (d :: l).reverse = (rs ++ fullR l.reverse) ++ [⟨.price, d, d, .none⟩] := by
      simp [fullR]
    rw [e, tells_snoc, tells_full rs w day l]
    dsimp only
    by_cases h : w = .price
    · subst h
      by_cases hd : day = d
      · subst hd
        rw [if_pos ⟨rfl, Int.le_refl _, Int.le_refl _⟩, if_pos ⟨rfl, List.mem_cons_self⟩]
      · rw [if_neg (fun z => hd (by omega))]
        by_cases m : day ∈ l
        · rw [if_pos ⟨rfl, m⟩, if_pos ⟨rfl, List.mem_cons_of_mem _ m⟩]
        · rw [if_neg (fun z => m z.2), if_neg (fun z => by
            rcases List.mem_cons.mp z.2 with z | z
            · exact hd z
            · exact m z)]
    · rw [if_neg (fun z => h z.1.symm), if_neg (fun z => h z.1), if_neg (fun z => h z.1)]
theorem tells_fullR (rs : List RuleD) (w : Wd) (day : Int) (l : List Int) : tellsD (rs ++ fullR l) w day = if w = .price ∧ day ∈ l then .none else tellsD rs w day := by
  have := tells_full rs w day l.reverse
  rw [List.reverse_reverse] at this
  rw [this]
  simp only [List.mem_reverse]
theorem full_good {ns : List Int} (h : ∀ d ∈ ns, 0 ≤ d ∧ d ≤ 1000000) : ∀ r ∈ fullR ns, RuleD.good r := fun r hr => by
  obtain ⟨d, hd, rfl⟩ := List.mem_map.mp hr
  have := h d hd
  exact ⟨this.1, Int.le_refl _, this.2, rfl⟩
/-- what is told of the class -/
def CFF (K : PySem.W.Frag) : Prop := exFull K = true
theorem CFF.cls {K : PySem.W.Frag} (c : CFF K) : Cls K (He.ga K "FullBook") := He.cls_ok (He.ba c).1
theorem CFF.no {K : PySem.W.Frag} (c : CFF K) {f : Str} (h : f ∈ (["beneath", "nights"] : List Str)) : NoAttr K (He.ga K "FullBook") f := He.noat_ok (List.all_eq_true.mp (He.ba c).2 f h)
/-- nights, as keys of a dict -/
def NiAt (H : Hp) (nd : Addr) (ns : List Int) : Prop := ∃ kvs, H nd = some (.dK kvs) ∧ ∀ i : Int, (valV kvs (.inl i)).isSome = decide (i ∈ ns)
theorem NiAt.same {H H' : Hp} {nd : Addr} {ns : List Int} (s : Same H H') (h : NiAt H nd ns) : NiAt H' nd ns := let ⟨kvs, h1, h2⟩ := h; ⟨kvs, s _ _ h1, h2⟩
def FullAt (K : PySem.W.Frag) (H : Hp) (v : V) (rs : List RuleD) : Prop := CFF K ∧ ∃ a dx b nd rs0 ns L, v = .ref a ∧ H a = some (.ins (He.ga K "FullBook") dx [("beneath", b), ("nights", .ref nd)]) ∧ BookAt K H L b rs0 ∧ NiAt H nd ns ∧ rs = rs0 ++ fullR ns
theorem FullAt.same {K : PySem.W.Frag} {H H' : Hp} {v : V} {rs : List RuleD} (s : Same H H') (h : FullAt K H v rs) : FullAt K H' v rs := by
  obtain ⟨c, a, dx, b, nd, rs0, ns, L, e, h1, h2, h3, h4⟩ := h
  exact ⟨c, a, dx, b, nd, rs0, ns, L, e, s _ _ h1, bk_same s h2, h3.same s, h4⟩
/-- a book, or one as if full nights were not sold -/
def AbAt (K : PySem.W.Frag) (H : Hp) (F : Bool) (v : V) (rs : List RuleD) : Prop := match F with
  | true => ∃ L, BookAt K H L v rs
  | false => FullAt K H v rs
theorem ab_same {K : PySem.W.Frag} {H H' : Hp} {F : Bool} {v : V} {rs : List RuleD} (s : Same H H') (h : AbAt K H F v rs) : AbAt K H' F v rs := by
  cases F with
  | true => exact let ⟨L, h⟩ := h; ⟨L, bk_same s h⟩
  | false => exact FullAt.same s h
theorem ab_new {K : PySem.W.Frag} {H : Hp} {p : Addr} {o : HO} {F : Bool} {v : V} {rs : List RuleD} (hp : Fr H p) (h : AbAt K H F v rs) : AbAt K (upd H p o) F v rs := ab_same (same_new hp) h
def AkAt (K : PySem.W.Frag) (H : Hp) (v : V) (rs : List RuleD) : Prop := ∃ F, AbAt K H F v rs
theorem AkAt.same {K : PySem.W.Frag} {H H' : Hp} {v : V} {rs : List RuleD} (s : Same H H') (h : AkAt K H v rs) : AkAt K H' v rs := let ⟨F, b⟩ := h; ⟨F, ab_same s b⟩
/-! ### a method of one or the other -/
def clsA (K : PySem.W.Frag) : Bool → Addr | true => He.ga K "Book" | false => He.ga K "FullBook"
def rObjA (K : PySem.W.Frag) (m : Str) (x : V) (H : Hp) (R : Bool → Hp → Prop) : Prop := ∃ b, rObj (clsA K b) m x H (R b)
def tAny (K : PySem.W.Frag) (m : Str) (sp : Bool → Sp) (ta : TE) (t : TA) : TE := fun σ H Q => ta σ H fun x H1 => rObjA K m x H1 fun b H2 => t σ H2 fun vs H3 => sp b (x :: (vs ++ [])) H3 Q E0
theorem g_tAny {K : PySem.W.Frag} {m : Str} {sp : Bool → Sp} {ta : TE} {t : TA} {σ : L2.St} {H : Hp} {Q : VK} (q : ta σ H fun x H1 => rObjA K m x H1 fun b H2 => t σ H2 fun vs H3 => sp b (x :: (vs ++ [])) H3 Q E0) : tAny K m sp ta t σ H Q := q
theorem g_robjA {K : PySem.W.Frag} {H : Hp} {F : Bool} {v : V} {rs : List RuleD} {R : Bool → Hp → Prop} (h : AbAt K H F v rs) (q : R F H) : rObjA K ("tells_of" : Str) v H R := by
  refine ⟨F, ?_⟩
  cases F with
  | true =>
    obtain ⟨L, h⟩ := h
    exact g_robj h (by decide) q
  | false =>
    obtain ⟨c, a, dx, b, nd, rs0, ns, L, rfl, h1, -⟩ := h
    exact ⟨a, dx, _, rfl, h1, rfl, q⟩
def sp_FullBook_tells_of (K : PySem.W.Frag) : Sp := Sp3 fun v u y H Q E => CFR K ∧ CFB K ∧ ∃ rs w day, FullAt K H v rs ∧ u = .str (Wd.word w) ∧ y = .int day ∧ ∀ x H', Same H H' → Td H' x (tellsD rs w day) → Q x H'
def spTell (K : PySem.W.Frag) : Bool → Sp | true => sp_Book_tells_of K | false => sp_FullBook_tells_of K
theorem g_tellsA {K : PySem.W.Frag} {F : Bool} {rs : List RuleD} {z : Str} {w : Wd} {day : Int} {v : V} {H : Hp} {Q : VK} {E : XK} (c : CFR K) (cb : CFB K) (b : AbAt K H F v rs) (ez : wordOf z = some w) (q : ∀ x H', Same H H' → Td H' x (tellsD rs w day) → Q x H') : spTell K F (v :: ([.str z, .int day] ++ [])) H Q E := by
  cases F with
  | true =>
    obtain ⟨L, b⟩ := b
    exact g_tellsZ (E := E) c cb b ez q
  | false =>
    rw [wordOf_some ez]
    exact ⟨_, _, _, rfl, c, cb, rs, w, day, b, rfl, rfl, q⟩
theorem pe_any {X : Cx} {CX : CXT} {k1 k2 j : Nat} {m : Str} {sp : Bool → Sp} {apos pos : Pos} {e o : Expr} {es : List Expr} {ta : TE} {t : TA} {pl : Sem Bool} (c1 : Met X.prog X.w X.K X.mg X.base CX k1 (He.ga X.K "Book") m (sp true) []) (c2 : Met X.prog X.w X.K X.mg X.base CX k2 (He.ga X.K "FullBook") m (sp false) []) (hr : RoomG j X.A) (hk1 : k1 ≤ j) (hk2 : k2 ≤ j) (hx : Passes CX X E0) (he : PE X o ta) (ha : PA X (e :: es) t)
    (hst : starEach (e :: es) X.env = (false, eval e X.env) :: starEach es X.env := by rfl) (hpl : (backTo pos (starEach es X.env)).any (·.1) = false := by rfl)
    (arm : eval (.Call (.Attribute o m apos) (e :: es) [] pos) X.env = (do
      let ov ← eval o X.env
      standAt apos.atName
      let (f, first) ← holding [ov] (getMethod ov m pl)
      callWith pos f first (backTo pos (starEach (e :: es) X.env)) (backToKw pos (keywordEach [] X.env))) := by rfl) :
    PE X (.Call (.Attribute o m apos) (e :: es) [] pos) (tAny X.K m sp ta t) := ⟨fun pins s σ H Q I h => by
  obtain ⟨f1, fd1, ps1, ds1, hc1, hm1, F1, b1, d1⟩ := c1.ex
  obtain ⟨f2, fd2, ps2, ds2, hc2, hm2, F2, b2, d2⟩ := c2.ex
  refine PySem.W.methodCall_KW (pl := pl) (thn (he.run pins s σ H _ I h) ?_) arm
  rintro u s1 ⟨x, H1, I1, rx, b, a, dx, fs, rfl, at_, no, q⟩
  obtain rfl : u = Value.ref a := rx
  cases b with
  | true => exact getmeth_ok I1 at_ hc1 hm1 no (PySem.W.callWith_K (first := [.ref a]) (h₀ := X.base) I.ok.mod.kin hm1.kp (thn (ha.run pos pins s1 σ H1 _ I1 q) fun us _ ⟨vs, _, I2, r, q2⟩ => ⟨I2.kIn, g_runs (us := .ref a :: us) (vs := .ref a :: vs) F1 (hr.mono hk1) b1 d1 hx I2 (.cons rfl r) q2⟩) hst hpl)
  | false => exact getmeth_ok I1 at_ hc2 hm2 no (PySem.W.callWith_K (first := [.ref a]) (h₀ := X.base) I.ok.mod.kin hm2.kp (thn (ha.run pos pins s1 σ H1 _ I1 q) fun us _ ⟨vs, _, I2, r, q2⟩ => ⟨I2.kIn, g_runs (us := .ref a :: us) (vs := .ref a :: vs) F2 (hr.mono hk2) b2 d2 hx I2 (.cons rfl r) q2⟩) hst hpl)⟩
theorem g_ffld {K : PySem.W.Frag} {f : Str} {n : Nat} {σ : L2.St} {H : Hp} {Q : VK} {a dx : Addr} {fs : List (Str × V)} {x : V} (ci : CFF K) (h : σ[n]? = some (some (.ref a))) (o : H a = some (.ins (He.ga K "FullBook") dx fs)) (m : f ∈ (["beneath", "nights"] : List Str)) (l : fs.lookup f = some x) (q : Q x H) : tFld K (tVar n) f σ H Q :=
  ⟨_, h, a, _, dx, fs, x, rfl, o, ci.cls, ci.no m, l, q⟩
theorem g_fset {K : PySem.W.Frag} {f : Str} {a dx : Addr} {fs : List (Str × V)} {y : V} {H : Hp} {Q : Hp → Prop} (ci : CFF K) (h : H a = some (.ins (He.ga K "FullBook") dx fs)) (m : f ∈ (["beneath", "nights"] : List Str)) (l : fs.length < 1000) (q : Q (upd H a (.ins (He.ga K "FullBook") dx (putF f y fs)))) : rSF K f (.ref a) y H Q :=
  ⟨a, _, dx, fs, rfl, h, ci.cls, ci.no m, l, q⟩
theorem g_dinF {td ty : TE} {σ : L2.St} {H : Hp} {Q : VK} (h : ty σ H fun y H1 => td σ H1 fun x H2 => ∃ a o, x = .ref a ∧ DGet H2 a y o ∧ Q (.bl o.isSome) H2) : tDIn ty td σ H Q := h
def sp_FullBook_init (K : PySem.W.Frag) : Sp := Sp3 fun v x y H Q E => CFF K ∧ ∃ (a dx : Addr), v = .ref a ∧ H a = some (.ins (He.ga K "FullBook") dx []) ∧ ∀ H', Kp [a] H H' → H' a = some (.ins (He.ga K "FullBook") dx [("beneath", x), ("nights", y)]) → Q .non H'
def t_FullBook_init (K : PySem.W.Frag) : TS :=
  (tSeq (sFld K (tVar 0) (tVar 1) "beneath")
  (sFld K (tVar 0) (tVar 2) "nights"))
theorem pure_FullBook_init {K : PySem.W.Frag} {v x y : V} {H : Hp} {Q : VK} {E : XK} (h : sp_FullBook_init K [v, x, y] H Q E) : t_FullBook_init K { nx := fun _ H' => Q .non H', rt := Q } [some v, some x, some y] H := by
  obtain ⟨v, x, y, e, cf, a, dx, rfl, ho, q⟩ := h
  cases e
  unfold t_FullBook_init
  with_reducible refine g_seq ?_
  refine g_sFld ?_
  walk_at "ss"
  refine g_fset cf ho (by decide) (by decide) ?_
  dsimp only
  refine g_sFld ?_
  walk_at "ss"
  refine g_fset (fs := [("beneath", x)]) cf upd_same (by decide) (show (1 : Nat) < 1000 by decide) ?_
  refine q _ (fun b o e n => ?_) upd_same
  have nb : b ≠ a := fun z => n (by simp [z])
  exact at_ne nb (at_ne nb e)
def t_FullBook_tells_of (K : PySem.W.Frag) : TS :=
  (tSeq (tIfS (tAnd (tTest (tOp rEq (tVar 1) (tC (.str "price")))) (tB (tDIn (tVar 2) (tFld K (tVar 0) "nights"))))
  (tRet (tC .non))
  tNext)
  (tRet (tMeth (He.ga K "Book") "tells_of" (sp_Book_tells_of K) [] E0 (tFld K (tVar 0) "beneath") (tCons (tVar 1) (tCons (tVar 2) tNil)))))
theorem pure_FullBook_tells_of {K : PySem.W.Frag} {v u y : V} {H : Hp} {Q : VK} {E : XK} (h : sp_FullBook_tells_of K [v, u, y] H Q E) : t_FullBook_tells_of K { nx := fun _ H' => Q .non H', rt := Q } [some v, some u, some y] H := by
  obtain ⟨v, u, y, e, c, cb, rs, w, day, ⟨cf, a, dx, b, nd, rs0, ns, L, rfl, h1, h2, ⟨kvs, h3, h4⟩, rfl⟩, rfl, rfl, q⟩ := h
  cases e
  unfold t_FullBook_tells_of
  walk_at "ss"
  have beneath : ∀ (n : ¬ (w = .price ∧ day ∈ ns)), tRet (tMeth (He.ga K "Book") "tells_of" (sp_Book_tells_of K) [] E0 (tFld K (tVar 0) "beneath") (tCons (tVar 1) (tCons (tVar 2) tNil))) { nx := fun _ H' => Q .non H', rt := Q } [some (.ref a), some (.str w.word), some (.int day)] H := fun n => by
    walk_at "ss"
    refine g_ffld cf rfl h1 (by decide) rfl ?_
    refine g_robj h2 (by decide) ?_
    walk_at "ss"
    rename_i x H' s hx
    refine q x H' s ?_
    rw [tells_fullR, if_neg n]
    exact hx
  by_cases hw : w = .price
  · subst hw
    refine ite_dt rfl ?_
    walk_at "ss"
    refine g_dinF ?_
    walk_at "ss"
    refine g_ffld cf rfl h1 (by decide) rfl ?_
    refine ⟨nd, _, rfl, DGet.k (k := .inl day) h3, _, rfl, ?_⟩
    rw [h4]
    by_cases m : day ∈ ns
    · refine ite_dt m ?_
      walk_at "ss"
      refine q _ _ (Same.refl _) ?_
      rw [tells_fullR, if_pos ⟨rfl, m⟩]
      exact .non
    · refine ite_df m ?_
      walk_at "ss"
      exact beneath fun z => m z.2
  · refine ite_df (by cases w <;> first | exact absurd rfl hw | decide) ?_
    refine ite_f rfl ?_
    walk_at "ss"
    exact beneath fun z => hw z.1
/-! YBa: what bars a stay. -/
open PySem PySem.Spec PyProof.Rows L2
def nightsL (rs : List RuleD) (c g : Int) : List (Wd × Int) := (days c g).filterMap fun n => if soldB rs n then none else some (Wd.price, n)
def bars1 (rs : List RuleD) (c g : Int) : List (Wd × Int) := nightsL rs c g ++ if comeB rs .come c then [] else [(.come, c)]
def bars2 (rs : List RuleD) (c g : Int) : List (Wd × Int) := bars1 rs c g ++ if comeB rs .go g then [] else [(.go, g)]
def bars3 (rs : List RuleD) (c g : Int) : List (Wd × Int) := bars2 rs c g ++ if g - c < numI rs .least c then [(.least, c)] else []
def barsL (rs : List RuleD) (c g : Int) : List (Wd × Int) := bars3 rs c g ++ if g - c > numI rs .most c then [(.most, c)] else []
def barD (p : Wd × Int) : PyData := .tuple [.str p.1.word, .int p.2]
def QBar (rs : List RuleD) (c g : Int) (H : Hp) (Q : VK) : Prop := ∀ (p : Addr) (xs : List V) (H' : Hp), Same H H' → Fr H p → H' p = some (.lst xs) → Tds H' xs ((barsL rs c g).map barD) → Q (.ref p) H'
def sp_bars (K : PySem.W.Frag) : Sp := Sp2 fun v y H Q E => CFR K ∧ CFB K ∧ ∃ (F : Bool) (rs : List RuleD) (a : Addr) (c g : Int), y = .ref a ∧ AbAt K H F v rs ∧ (∀ r ∈ rs, RuleD.good r) ∧ SqT K H a [.int c, .int g] ∧ (c - 1000 ≤ g ∧ g ≤ c + 1000 ∧ -10000000 ≤ c ∧ c ≤ 10000000) ∧ QBar rs c g H Q
/-! YBi: bills of stays whose nights are sold. -/
open PySem PySem.Spec PyProof.Rows L2
theorem fm_map {α β : Type} (f : α → β) (l : List α) : l.filterMap (fun x => some (f x)) = l.map f := by
  induction l with
  | nil => rfl
  | cons a l ih => simp [ih]
def pricesL (rs : List RuleD) (c g : Int) : List Int := (days c g).map fun n => numI rs .price n
def dealO (rs : List RuleD) (c : Int) : Option (Int × Int) := match tellsD rs .deal c with | .tuple [.int m, .int f] => some (m, f) | _ => none
def marksL (rs : List RuleD) (c g : Int) : List Bool := mkO (pricesL rs c g) (dealO rs c)
def rowOf (rs : List RuleD) (c g : Int) (i : Nat) : Int × Int × Bool := ((days c g).getD i 0, (pricesL rs c g).getD i 0, (marksL rs c g).getD i false)
def rowsL (rs : List RuleD) (c g : Int) : List (Int × Int × Bool) := (List.range (days c g).length).map (rowOf rs c g)
def rowD (r : Int × Int × Bool) : PyData := .tuple [.int r.1, .int r.2.1, .bool r.2.2]
def paidL (rs : List RuleD) (c g : Int) : List Int := (rowsL rs c g).filterMap fun r => if r.2.2 then none else some r.2.1
def sumD (rs : List RuleD) (c g : Int) : Int := numI rs .fee c + (paidL rs c g).sum
theorem prices_len (rs : List RuleD) (c g : Int) : (pricesL rs c g).length = (days c g).length := by unfold pricesL; rw [List.length_map]
theorem marks_len (rs : List RuleD) (c g : Int) : (marksL rs c g).length = (days c g).length := by unfold marksL; rw [mkO_len, prices_len]
theorem rows_len (rs : List RuleD) (c g : Int) : (rowsL rs c g).length = (days c g).length := by unfold rowsL; rw [List.length_map, List.length_range]
theorem td_two {H : Hp} {x : V} {m f : Int} (h : Td H x (.tuple [.int m, .int f])) : PrAt H x (m, f) := by
  cases h with
  | tup h r =>
    cases r with
    | cons a r =>
      cases r with
      | cons b r =>
        cases r
        cases a
        cases b
        exact ⟨_, rfl, h⟩
theorem td_row {H : Hp} {x : V} {r : Int × Int × Bool} (h : Td H x (rowD r)) : ∃ q, x = .ref q ∧ H q = some (.tup [.int r.1, .int r.2.1, .bl r.2.2]) := by
  unfold rowD at h
  cases h with
  | tup h r =>
    cases r with
    | cons a r =>
      cases r with
      | cons b r =>
        cases r with
        | cons d r =>
          cases r
          cases a
          cases b
          cases d
          exact ⟨_, rfl, h⟩
theorem deal_at {rs : List RuleD} (gd : ∀ r ∈ rs, RuleD.good r) {c : Int} {H : Hp} {x : V} (h : Td H x (tellsD rs .deal c)) : DealAt H x (dealO rs c) := by
  have f := tells_fits gd .deal c
  unfold dealO
  rcases isDeal_ex f with e | ⟨m, f', e, m0, m1, f0, f1⟩
  · rw [e] at h ⊢
    cases h
    exact rfl
  · rw [e] at h ⊢
    exact ⟨td_two h, by show 0 < m; omega, by show m ≤ 1000; omega, by show 0 ≤ f'; omega⟩
theorem no_none (ns : List Int) : inV .non (ns.map V.int) = false := by
  unfold inV
  rw [List.any_eq_false]
  intro x hx
  obtain ⟨i, -, rfl⟩ := List.mem_map.mp hx
  intro h
  cases h
theorem ints_flat (ns : List Int) : (ns.map V.int).all flatV = true := by
  rw [List.all_eq_true]
  intro x hx
  obtain ⟨i, -, rfl⟩ := List.mem_map.mp hx
  rfl
theorem at_ints {ns : List Int} {i : Nat} (h : i < ns.length) : atI (ns.map V.int) (0 + (i : Int)) = some (.int (ns.getD i 0)) := by
  have e : atI ns (0 + (i : Int)) = some (ns.getD i 0) := by
    unfold atI
    rw [ix_nat (by omega) h]
    simp [h]
  exact atI_map e
theorem at_bls {ns : List Bool} {i : Nat} (h : i < ns.length) : atI (ns.map V.bl) (0 + (i : Int)) = some (.bl (ns.getD i false)) := by
  have e : atI ns (0 + (i : Int)) = some (ns.getD i false) := by
    unfold atI
    rw [ix_nat (by omega) h]
    simp [h]
  unfold atI at e ⊢
  rw [List.length_map]
  cases hk : ixN ns.length (0 + (i : Int)) with
  | none => rw [hk] at e; cases e
  | some k =>
    rw [hk] at e
    show (ns.map V.bl)[k]? = _
    rw [List.getElem?_map, show ns[k]? = some (ns.getD i false) from e]
    rfl
def SoldAll (rs : List RuleD) (c g : Int) : Prop := ∀ n ∈ days c g, soldB rs n = true
def QBill (rs : List RuleD) (c g : Int) (H : Hp) (Q : VK) : Prop := ∀ (p q : Addr) (xs : List V) (H' : Hp), Same H H' → Fr H p → Fr H q → H' p = some (.tup [.int (sumD rs c g), .ref q, .int (numI rs .fee c)]) → H' q = some (.lst xs) → Tds H' xs ((rowsL rs c g).map rowD) → Q (.ref p) H'
def sp_bill (K : PySem.W.Frag) : Sp := Sp2 fun v y H Q E => CFR K ∧ CFB K ∧ ∃ (F : Bool) (rs : List RuleD) (a : Addr) (c g : Int), y = .ref a ∧ AbAt K H F v rs ∧ (∀ r ∈ rs, RuleD.good r) ∧ SqT K H a [.int c, .int g] ∧ (c ≤ g ∧ g ≤ c + 900 ∧ -10000000 ≤ c ∧ c ≤ 10000000) ∧ SoldAll rs c g ∧ QBill rs c g H Q
theorem g_bill {K : PySem.W.Frag} {F : Bool} {rs : List RuleD} {a : Addr} {c g : Int} {v : V} {H : Hp} {Q : VK} {E : XK} (cf : CFR K) (cb : CFB K) (h : AbAt K H F v rs) (gd : ∀ r ∈ rs, RuleD.good r) (s : SqT K H a [.int c, .int g]) (b : c ≤ g ∧ g ≤ c + 900 ∧ -10000000 ≤ c ∧ c ≤ 10000000) (so : SoldAll rs c g)
    (q : ∀ (p q : Addr) (xs : List V) (H' : Hp), Same H H' → Fr H p → Fr H q → H' p = some (.tup [.int (sumD rs c g), .ref q, .int (numI rs .fee c)]) → H' q = some (.lst xs) → Tds H' xs ((rowsL rs c g).map rowD) → Q (.ref p) H') : sp_bill K ([v, .ref a] ++ []) H Q E := ⟨_, _, rfl, cf, cb, F, rs, a, c, g, rfl, h, gd, s, b, so, q⟩
theorem g_sum {K : PySem.W.Frag} {H : Hp} {Q : VK} {p : Addr} {ns : List Int} (h : SqL K H p (ns.map V.int)) (q : Q (.int ns.sum) H) : rSum K [.ref p] H Q := ⟨p, ns, rfl, h, q⟩
def t_bill (K : PySem.W.Frag) : TS :=
  (tSeq (tAsg (tCall (sp_nights_of K) [] E0 (tCons (tVar 1) tNil)) (gName 2))
  (tSeq (tAsg (tLc (iList K (tVar 2)) (gName 7) tYes (Y.tAny K "tells_of" (Y.spTell K) (tVar 0) (tCons (tC (.str "price")) (tCons (tVar 7) tNil))) [7]) (gName 3))
  (tSeq (tIfS (tTest (tOp (rIn K false) (tC .non) (tVar 3)))
  tNever
  tNext)
  (tSeq (tAsg (tCall (sp_marked K) [] E0 (tCons (tVar 3) (tCons (Y.tAny K "tells_of" (Y.spTell K) (tVar 0) (tCons (tC (.str "deal")) (tCons (tOp (rIxT K) (tVar 1) (tC (.int 0))) tNil))) tNil))) (gName 4))
  (tSeq (tAsg (Y.tAny K "tells_of" (Y.spTell K) (tVar 0) (tCons (tC (.str "fee")) (tCons (tOp (rIxT K) (tVar 1) (tC (.int 0))) tNil))) (gName 5))
  (tSeq (tAsg (tLc (iRng1 (tCons (tCB (rLen K) (tCons (tVar 2) tNil)) tNil)) (gName 8) tYes (tTup (tCons (tOp (rIxL K) (tVar 2) (tVar 8)) (tCons (tOp (rIxL K) (tVar 3) (tVar 8)) (tCons (tOp (rIxL K) (tVar 4) (tVar 8)) tNil)))) [8]) (gName 6))
  (tRet (tTup (tCons (tOp rAdd (tVar 5) (tCB (rSum K) (tCons (tLc (iList K (tVar 6)) (gTup K 3 (gCons (gName 7) (gCons (gName 9) (gCons (gName 10) gNil)))) (tNot (tB (tVar 10))) (tVar 9) [7, 9, 10]) tNil))) (tCons (tVar 6) (tCons (tVar 5) tNil)))))))))))
theorem pure_bill {K : PySem.W.Frag} {v y : V} {H : Hp} {Q : VK} {E : XK} (h : sp_bill K [v, y] H Q E) : t_bill K { nx := fun _ H' => Q .non H', rt := Q } [some v, some y, none, none, none, none, none, none, none, none, none] H := by
  obtain ⟨v, y, e, cf, cb, F, rs, a, c, g, rfl, B, gd, hS, ⟨b0, b1, b2, b3⟩, so, q⟩ := h
  cases e
  unfold t_bill
  walk_at "ss"
  rename_i np H1 s1 f1 h1
  have B1 : AbAt K H1 F v rs := by walk_at "bk"
  have dl := days_len c g
  have hml : (List.map V.int (days c g)).length = (g - c).toNat := by rw [List.length_map]; exact dl
  refine lc_w (f := fun i => ((days c g)[i]?).bind fun n => some (V.int (numI rs .price n))) (walk_list (K := K) (a := np) (xs := (days c g).map V.int)) (by rw [List.length_map]; omega) (fun H' s => SqL.of (s _ _ h1)) ?_ ?_
  · rintro D i x H2 H3 N hD hi s2 ⟨rfl, hx⟩ hy hn
    obtain ⟨n, rfl, hn'⟩ := map_get hx
    have B2 : AbAt K H3 F v rs := by walk_at "bk"
    walk_at "ss"
    rename_i x H4 s4 hx4
    rcases price_v gd hx4 with ⟨e, rfl⟩ | ⟨e, rfl, -, -⟩
    · rw [so n (List.mem_of_getElem? hn')] at e
      cases e
    · exact hy _ _ (by rw [hn']; rfl) (by walk_at "sm")
  intro D H2 hD s2 h2
  have e2 : (List.range ((days c g).map V.int).length).filterMap (fun i => ((days c g)[i]?).bind fun n => some (V.int (numI rs .price n))) = (pricesL rs c g).map V.int := by
    rw [List.length_map, range_flt (days c g) (fun n => some (V.int (numI rs .price n))), fm_map]
    unfold pricesL
    rw [List.map_map]
    rfl
  rw [e2] at h2
  have pl := prices_len rs c g
  have ml := marks_len rs c g
  walk_at "ss"
  with_reducible refine g_seq ?_
  walk_at "ss"
  refine ⟨D, _, rfl, .inl (SqL.of h2), rfl, ints_flat _, ?_⟩
  rw [no_none]
  rw [if_neg (by decide)]
  walk_at "ss"
  rename_i xd H3 s3 hxd
  refine g_marked (dealO rs c) (by walk_at "sq") (by rw [pl]; omega) (deal_at gd hxd) fun l H4 s4 f4 h4 => ?_
  walk_at "ss"
  rename_i xf H5 s5 hxf
  obtain ⟨rfl, fe0, fe1⟩ := num_f gd hxf
  have hn5 : H5 np = some (.lst ((days c g).map V.int)) := by walk_at "at"
  have hp5 : H5 D = some (.lst ((pricesL rs c g).map V.int)) := by walk_at "at"
  have hm5 : H5 l = some (.lst ((marksL rs c g).map V.bl)) := s5 _ _ h4
  refine lc_r walk_range (fun G v d => Td G v d) (fun _ _ _ _ k h => h.tk k) (fun i => some (rowD (rowOf rs c g i))) (by rw [List.length_map]; omega) (fun _ _ => trivial) ?_ ?_
  · rintro D2 i x H6 H7 N hD2 hi s6 ⟨rfl, rfl⟩ hy -
    rw [List.length_map] at hi
    have a1 := at_ints (ns := days c g) (i := i) (by omega)
    have a2 := at_ints (ns := pricesL rs c g) (i := i) (by omega)
    have a3 := at_bls (ns := marksL rs c g) (i := i) (by omega)
    walk_at "ss"
    rename_i T hT
    exact hy _ _ _ rfl (by walk_at "sm") (.tup upd_same (.cons (.int _) (.cons (.int _) (.cons (.bl _) .nil))))
  intro D2 H6 ys hD2 s6 h6 hp6
  have e6 : (List.range ((days c g).map V.int).length).filterMap (fun i => some (rowD (rowOf rs c g i))) = (rowsL rs c g).map rowD := by
    rw [List.length_map, fm_map]
    unfold rowsL
    rw [List.map_map]
    rfl
  rw [Int.toNat_natCast, e6] at hp6
  have yl : ys.length = (rowsL rs c g).length := by rw [Paired.length hp6, List.length_map]
  have rl := rows_len rs c g
  have S6 : Same H H6 := by walk_at "sm"
  have fD2 : Fr H D2 := fr_of hD2 (by walk_at "sm")
  walk_at "ss"
  refine lc_w (f := fun i => ((rowsL rs c g)[i]?).bind fun r => (if r.2.2 then none else some r.2.1).map V.int) (walk_list (K := K) (a := D2) (xs := ys)) (by omega) (fun H' s => SqL.of (s _ _ h6)) ?_ ?_
  · rintro D3 i x H7 H8 N hD3 hi s7 ⟨rfl, hx⟩ hy hn
    obtain ⟨d, hd, hxd'⟩ := Paired.getL hp6 hx
    rw [List.getElem?_map] at hd
    cases hr : (rowsL rs c g)[i]? with
    | none => rw [hr] at hd; cases hd
    | some r =>
      rw [hr] at hd
      obtain rfl : rowD r = d := Option.some.inj hd
      obtain ⟨tq, rfl, htq⟩ := td_row (hxd'.tk (Same.tk s7))
      rw [hr] at hy hn
      walk_at "ss"
      cases hb : r.2.2 with
      | false =>
        rw [if_pos (by rfl)]
        walk_at "ss"
        exact hy _ _ (by simp [hb]) (Same.refl _)
      | true =>
        rw [if_neg (by decide)]
        exact hn _ (by simp [hb]) (Same.refl _)
  intro D3 H7 hD3 s7 h7
  have e7 : (List.range ys.length).filterMap (fun i => ((rowsL rs c g)[i]?).bind fun r => (if r.2.2 then none else some r.2.1).map V.int) = (paidL rs c g).map V.int := by
    rw [yl, range_flt (rowsL rs c g) (fun r => (if r.2.2 then none else some r.2.1).map V.int)]
    unfold paidL
    rw [List.map_filterMap]
  rw [e7] at h7
  walk_at "ss"
  refine g_sum (SqL.of h7) ?_
  walk_at "ss"
  rename_i p hp
  exact q p D2 ys _ (by walk_at "sm") (fr_of (fr_of hp s7) S6) fD2 upd_same (by walk_at "at") (tds_of (Paired.mapP hp6 fun _ _ z => z.tk (by exact (Same.tk s7).trans (tk_new hp))))
/-! YCo: whether a stay can be had, what it costs. -/
open PySem PySem.Spec PyProof.Rows L2
def hadB (rs : List RuleD) (c g : Int) : Bool := decide (numI rs .least c ≤ g - c) && (decide (g - c ≤ numI rs .most c) && (comeB rs .come c && (comeB rs .go g && (days c g).all (soldB rs))))
def coinO (rs : List RuleD) (c g : Int) : Option Int := if hadB rs c g then some (sumD rs c g) else none
theorem had_sold {rs : List RuleD} {c g : Int} (h : hadB rs c g = true) : SoldAll rs c g := fun n hn => by
  unfold hadB at h
  simp only [Bool.and_eq_true] at h
  exact List.all_eq_true.mp h.2.2.2.2 n hn
def BkOk (K : PySem.W.Frag) (H : Hp) (v y : V) (rs : List RuleD) (c g : Int) : Prop := ∃ (F : Bool) (a : Addr), y = .ref a ∧ AbAt K H F v rs ∧ (∀ r ∈ rs, RuleD.good r) ∧ SqT K H a [.int c, .int g] ∧ (c ≤ g ∧ g ≤ c + 900 ∧ -10000000 ≤ c ∧ c ≤ 10000000)
def sp_can_be_had (K : PySem.W.Frag) : Sp := Sp2 fun v y H Q E => CFR K ∧ CFB K ∧ ∃ rs c g, BkOk K H v y rs c g ∧ ∀ H', Same H H' → Q (.bl (hadB rs c g)) H'
def sp_coins_of (K : PySem.W.Frag) : Sp := Sp2 fun v y H Q E => CFR K ∧ CFB K ∧ ∃ rs c g, BkOk K H v y rs c g ∧ ∀ H', Same H H' → Q (if hadB rs c g then .int (sumD rs c g) else .non) H'
def spx_cost (K : PySem.W.Frag) : Sp := Sp2 fun v y H Q E => CFR K ∧ CFB K ∧ exInit "Barred" "bars" K = true ∧ ∃ rs c g, BkOk K H v y rs c g ∧ (hadB rs c g = true → ∀ H', Same H H' → Q (.int (sumD rs c g)) H') ∧
  (hadB rs c g = false → ∀ (p dd : Addr) (xs : List V) (H' : Hp), Same H H' → Fr H p → H' p = some (.lst xs) → Tds H' xs ((barsL rs c g).map barD) → H' dd = some (.xd [("bars", .ref p)]) → E (.ref (He.ga K "Barred")) (some dd) H')
theorem g_can {K : PySem.W.Frag} {F : Bool} {rs : List RuleD} {a : Addr} {c g : Int} {v : V} {H : Hp} {Q : VK} {E : XK} (cf : CFR K) (cb : CFB K) (h : AbAt K H F v rs) (gd : ∀ r ∈ rs, RuleD.good r) (s : SqT K H a [.int c, .int g]) (b : c ≤ g ∧ g ≤ c + 900 ∧ -10000000 ≤ c ∧ c ≤ 10000000)
    (q : ∀ H', Same H H' → Q (.bl (hadB rs c g)) H') : sp_can_be_had K ([v, .ref a] ++ []) H Q E := ⟨_, _, rfl, cf, cb, rs, c, g, ⟨F, a, rfl, h, gd, s, b⟩, q⟩
theorem g_coins {K : PySem.W.Frag} {F : Bool} {rs : List RuleD} {a : Addr} {c g : Int} {v : V} {H : Hp} {Q : VK} {E : XK} (cf : CFR K) (cb : CFB K) (h : AbAt K H F v rs) (gd : ∀ r ∈ rs, RuleD.good r) (s : SqT K H a [.int c, .int g]) (b : c ≤ g ∧ g ≤ c + 900 ∧ -10000000 ≤ c ∧ c ≤ 10000000)
    (q : ∀ H', Same H H' → Q (if hadB rs c g then .int (sumD rs c g) else .non) H') : sp_coins_of K ([v, .ref a] ++ []) H Q E := ⟨_, _, rfl, cf, cb, rs, c, g, ⟨F, a, rfl, h, gd, s, b⟩, q⟩
def t_can_be_had (K : PySem.W.Frag) : TS :=
  (tSeq (tAsg (tVar 1) (gTup K 2 (gCons (gName 2) (gCons (gName 3) gNil))))
  (tSeq (tIfS (tNot (tTest (tChain rLe rLe (Y.tAny K "tells_of" (Y.spTell K) (tVar 0) (tCons (tC (.str "least")) (tCons (tVar 2) tNil))) (tOp rSub (tVar 3) (tVar 2)) (Y.tAny K "tells_of" (Y.spTell K) (tVar 0) (tCons (tC (.str "most")) (tCons (tVar 2) tNil))))))
  (tRet (tC (.bl false)))
  tNext)
  (tSeq (tIfS (tOr (tNot (Y.tTru K (Y.tAny K "tells_of" (Y.spTell K) (tVar 0) (tCons (tC (.str "come")) (tCons (tVar 2) tNil))))) (tNot (Y.tTru K (Y.tAny K "tells_of" (Y.spTell K) (tVar 0) (tCons (tC (.str "go")) (tCons (tVar 3) tNil))))))
  (tRet (tC (.bl false)))
  tNext)
  (tSeq (tFor (iList K (tCall (sp_nights_of K) [] E0 (tCons (tVar 1) tNil))) (gName 4)
  (tIfS (tTest (tOp rIsN (Y.tAny K "tells_of" (Y.spTell K) (tVar 0) (tCons (tC (.str "price")) (tCons (tVar 4) tNil))) (tC .non)))
  (tRet (tC (.bl false)))
  tNext))
  (tRet (tC (.bl true)))))))
theorem pure_can_be_had {K : PySem.W.Frag} {v y : V} {H : Hp} {Q : VK} {E : XK} (h : sp_can_be_had K [v, y] H Q E) : t_can_be_had K { nx := fun _ H' => Q .non H', rt := Q } [some v, some y, none, none, none] H := by
  obtain ⟨v, y, e, cf, cb, rs, c, g, ⟨F, a, rfl, B, gd, hS, ⟨b0, b1, b2, b3⟩⟩, q⟩ := h
  cases e
  unfold t_can_be_had
  walk_at "ss"
  rename_i x1 H1 s1 hx1
  obtain ⟨rfl, l0, l1⟩ := num_n gd (.inl rfl) hx1
  have B1 := ab_same s1 B
  have S1 := Same.seqT s1 hS
  have hq : ∀ {b : Bool} {H' : Hp}, hadB rs c g = b → Same H H' → Q (.bl b) H' := fun e s => by
    rw [← e]
    exact q _ s
  walk_at "ss"
  have no : ∀ {H' : Hp}, (numI rs .least c ≤ g - c → g - c ≤ numI rs .most c → comeB rs .come c = true → comeB rs .go g = true → (days c g).all (soldB rs) = false) → Same H H' → Q (.bl false) H' := fun h s => hq (by
    unfold hadB
    by_cases h1 : numI rs .least c ≤ g - c
    · rw [decide_eq_true h1, Bool.true_and]
      by_cases h2 : g - c ≤ numI rs .most c
      · rw [decide_eq_true h2, Bool.true_and]
        cases h3 : comeB rs .come c with
        | false => rfl
        | true =>
          cases h4 : comeB rs .go g with
          | false => rfl
          | true => rw [h h1 h2 h3 h4]; rfl
      · rw [decide_eq_false h2]; rfl
    · rw [decide_eq_false h1]; rfl) s
  refine ite_b (fun z1 => ?_) fun z1 => ?_
  · walk_at "ss"
    rename_i x2 H2 s2 hx2
    obtain ⟨rfl, m0, m1⟩ := num_n gd (.inr rfl) hx2
    have B2 := ab_same s2 B1
    have z1' := of_decide_eq_true z1
    walk_at "ss"
    refine ite_nd (fun z2 => ?_) fun z2 => ?_
    · walk_at "ss"
      rename_i x3 H3 s3 hx3
      obtain rfl := come_b gd (.inl rfl) hx3
      have B3 := ab_same s3 B2
      walk_at "ss"
      cases z3 : comeB rs .come c with
      | false =>
        refine ite_nf ?_
        walk_at "ss"
        exact no (fun _ _ h _ => by rw [z3] at h; cases h) (by walk_at "sm")
      | true =>
        refine ite_nt ?_
        walk_at "ss"
        rename_i x4 H4 s4 hx4
        obtain rfl := come_b gd (.inr rfl) hx4
        have B4 := ab_same s4 B3
        walk_at "ss"
        cases z4 : comeB rs .go g with
        | false =>
          refine ite_nf ?_
          walk_at "ss"
          exact no (fun _ _ _ h => by rw [z4] at h; cases h) (by walk_at "sm")
        | true =>
          refine ite_nt ?_
          have SS : Same H H4 := by walk_at "sm"
          have S4 : SqT K H4 a [.int c, .int g] := Same.seqT SS hS
          clear s1 s2 s3 s4 hx1 hx2 hx3 hx4 B1 B2 B3 S1
          walk_at "ss"
          rename_i np H5 s5 f5 h5
          have B5 := ab_same s5 B4
          refine for_list (K := K) (a := np) (xs := (days c g).map V.int) (fun i σ H' => ∃ v4, σ = [some v, some (.ref a), some (.int c), some (.int g), v4] ∧ Same H5 H' ∧ ∀ n ∈ (days c g).take i, soldB rs n = true)
            ⟨_, rfl, Same.refl _, by simp⟩ (fun i σ H' _ h => by obtain ⟨_, _, h, _⟩ := h; exact SqL.of (h _ _ h5)) ?_ ?_
          · rintro i x σ H' hi ⟨v4, rfl, sm, hs⟩
            obtain ⟨n, rfl, hn⟩ := map_get hi
            have B6 := ab_same sm B5
            walk_at "ss"
            rename_i x6 H6 s6 hx6
            rcases price_v gd hx6 with ⟨e, rfl⟩ | ⟨e, rfl, -, -⟩
            · walk_at "ss"
              refine ite_dt rfl ?_
              walk_at "ss"
              refine no (fun _ _ _ _ => ?_) (by walk_at "sm")
              rw [List.all_eq_false]
              exact ⟨n, List.mem_of_getElem? hn, by rw [e]; decide⟩
            · walk_at "ss"
              refine ite_df (by simp) ?_
              walk_at "ss"
              refine ⟨_, rfl, by walk_at "sm", fun m hm => ?_⟩
              rw [List.take_add_one, hn] at hm
              rcases List.mem_append.mp hm with hm | hm
              · exact hs m hm
              · simp at hm
                rw [hm]
                exact e
          · rintro σ H' ⟨v4, rfl, sm, hs⟩
            walk_at "ss"
            rw [List.take_of_length_le (by rw [List.length_map]; exact Nat.le_refl _)] at hs
            refine hq ?_ (by walk_at "sm")
            unfold hadB
            rw [decide_eq_true z1', decide_eq_true z2, z3, z4, List.all_eq_true.mpr hs]
            rfl
    · walk_at "ss"
      exact no (fun _ h _ _ => absurd h z2) (by walk_at "sm")
  · walk_at "ss"
    exact no (fun h _ _ _ => absurd h (of_decide_eq_false z1)) (by walk_at "sm")
def t_coins_of (K : PySem.W.Frag) : TS :=
  (tSeq (tIfS (tNot (tB (tCall (sp_can_be_had K) [] E0 (tCons (tVar 0) (tCons (tVar 1) tNil)))))
  (tRet (tC .non))
  tNext)
  (tRet (tOp (rIxT K) (tCall (sp_bill K) [] E0 (tCons (tVar 0) (tCons (tVar 1) tNil))) (tC (.int 0)))))
theorem pure_coins_of {K : PySem.W.Frag} {v y : V} {H : Hp} {Q : VK} {E : XK} (h : sp_coins_of K [v, y] H Q E) : t_coins_of K { nx := fun _ H' => Q .non H', rt := Q } [some v, some y] H := by
  obtain ⟨v, y, e, cf, cb, rs, c, g, ⟨F, a, rfl, B, gd, hS, ⟨b0, b1, b2, b3⟩⟩, q⟩ := h
  cases e
  unfold t_coins_of
  walk_at "ss"
  refine g_can cf cb B gd hS ⟨b0, b1, b2, b3⟩ fun H1 s1 => ?_
  have B1 := ab_same s1 B
  have S1 := Same.seqT s1 hS
  walk_at "ss"
  cases hh : hadB rs c g with
  | false =>
    refine ite_nf ?_
    walk_at "ss"
    have := q H1 s1
    rw [hh] at this
    exact this
  | true =>
    refine ite_nt ?_
    walk_at "ss"
    refine g_bill cf cb B1 gd S1 ⟨b0, b1, b2, b3⟩ (had_sold hh) fun p z xs H2 s2 _ _ h1 _ _ => ?_
    walk_at "ss"
    have := q H2 (s1.trans s2)
    rw [hh] at this
    exact this
/-! YBp: the best of a stay, plainly: what the program reckons, and that it is a cut of least cost with its paper, or days that no part leads out of. -/
open PySem PySem.Spec PyProof.Rows L2
abbrev Pt := Int × Int × Int
abbrev We := Int × Option Pt
abbrev Wf := Int → Option We
def partsRow (k : Int) (rs : List RuleD) (d g : Int) : List (Int × Pt) := (days (d + 1) (g + 1)).filterMap fun e => (coinO rs d e).map fun c => (c, (d, e, k))
def partsAll (d g : Int) : Int → List (List RuleD) → List (Int × Pt)
  | _, [] => []
  | k, rs :: r => partsRow k rs d g ++ partsAll d g (k + 1) r
theorem partsAll_snoc (d g : Int) : ∀ (k : Int) (bs : List (List RuleD)) (rs : List RuleD), partsAll d g k (bs ++ [rs]) = partsAll d g k bs ++ partsRow (k + (bs.length : Nat)) rs d g
  | k, [], rs => by simp [partsAll]
  | k, b :: bs, rs => by
    rw [List.cons_append, partsAll, partsAll, partsAll_snoc d g (k + 1) bs rs, List.append_assoc, List.length_cons]
    congr 2
    push_cast
    congr 1
    omega
theorem mem_partsRow {k : Int} {rs : List RuleD} {d g : Int} {x : Int × Pt} : x ∈ partsRow k rs d g ↔ x.2.1 = d ∧ x.2.2.2 = k ∧ d < x.2.2.1 ∧ x.2.2.1 ≤ g ∧ coinO rs d x.2.2.1 = some x.1 := by
  unfold partsRow
  rw [List.mem_filterMap]
  obtain ⟨c, b, e, k'⟩ := x
  constructor
  · rintro ⟨a, ha, h⟩
    have := mem_days.mp ha
    cases h2 : coinO rs d a with
    | none => rw [h2] at h; cases h
    | some z =>
      rw [h2] at h
      cases h
      exact ⟨rfl, rfl, by dsimp only; omega, by dsimp only; omega, h2⟩
  · rintro ⟨h1, h2, h3, h4, h5⟩
    dsimp only at h1 h2 h3 h4 h5
    subst h1 h2
    exact ⟨e, mem_days.mpr ⟨by omega, by omega⟩, by rw [h5]; rfl⟩
theorem mem_partsAll {d g : Int} {x : Int × Pt} : ∀ {k : Int} {bs : List (List RuleD)}, x ∈ partsAll d g k bs ↔ x.2.1 = d ∧ d < x.2.2.1 ∧ x.2.2.1 ≤ g ∧ ∃ (i : Nat) (rs : List RuleD), x.2.2.2 = k + i ∧ bs[i]? = some rs ∧ coinO rs d x.2.2.1 = some x.1
  | k, [] => by simp [partsAll]
  | k, rs :: r => by
    rw [partsAll, List.mem_append, mem_partsRow, mem_partsAll]
    constructor
    · rintro (⟨h1, h2, h3, h4, h5⟩ | ⟨h1, h2, h3, i, rs', h4, h5, h6⟩)
      · exact ⟨h1, h3, h4, 0, rs, by simpa using h2, rfl, h5⟩
      · exact ⟨h1, h2, h3, i + 1, rs', by push_cast; omega, h5, h6⟩
    · rintro ⟨h1, h2, h3, i, rs', h4, h5, h6⟩
      cases i with
      | zero =>
        simp at h5
        subst h5
        exact .inl ⟨h1, by simpa using h4, h2, h3, h6⟩
      | succ i => exact .inr ⟨h1, h2, h3, i, rs', by push_cast at h4; omega, by simpa using h5, h6⟩
def fset (f : Wf) (i : Int) (w : We) : Wf := fun j => if j = i then some w else f j
def relax (t : Int) (f : Wf) (x : Int × Pt) : Wf :=
  if (f x.2.2.1).isSome = false ∨ t + x.1 < ((f x.2.2.1).getD (0, none)).1 then fset f x.2.2.1 (t + x.1, some x.2) else f
def dayW (bs : List (List RuleD)) (g : Int) (f : Wf) (d : Int) : Wf := match f d with
  | none => f
  | some w => (partsAll d g 0 bs).foldl (relax w.1) f
def way0 (c : Int) : Wf := fun i => if i = c then some (0, none) else none
def waysF (bs : List (List RuleD)) (c g : Int) : Wf := (days c g).foldl (dayW bs g) (way0 c)
theorem relax_ne {t : Int} {f : Wf} {x : Int × Pt} {i : Int} (h : i ≠ x.2.2.1) : relax t f x i = f i := by
  unfold relax fset
  split
  · exact if_neg h
  · rfl
theorem relax_at {t : Int} {f : Wf} {x : Int × Pt} : (relax t f x x.2.2.1 = f x.2.2.1 ∨ relax t f x x.2.2.1 = some (t + x.1, some x.2)) ∧ ∃ w, relax t f x x.2.2.1 = some w ∧ w.1 ≤ t + x.1 ∧ ∀ v, f x.2.2.1 = some v → w.1 ≤ v.1 := by
  unfold relax fset
  cases h : f x.2.2.1 with
  | none => rw [if_pos (.inl rfl)]; simp
  | some v =>
    by_cases z : t + x.1 < v.1
    · rw [if_pos (.inr z)]
      refine ⟨.inr (if_pos rfl), _, if_pos rfl, Int.le_refl _, fun u hu => ?_⟩
      cases hu
      show t + x.1 ≤ v.1
      omega
    · rw [if_neg (by simp; omega)]
      exact ⟨.inl h, v, h, by omega, fun u hu => by cases hu; exact Int.le_refl _⟩
theorem fold_relax (t : Int) : ∀ (L : List (Int × Pt)) (f : Wf),
    (∀ i, L.foldl (relax t) f i = f i ∨ ∃ x ∈ L, x.2.2.1 = i ∧ L.foldl (relax t) f i = some (t + x.1, some x.2)) ∧
    (∀ i w, f i = some w → ∃ w', L.foldl (relax t) f i = some w' ∧ w'.1 ≤ w.1) ∧
    (∀ x ∈ L, ∃ w', L.foldl (relax t) f x.2.2.1 = some w' ∧ w'.1 ≤ t + x.1)
  | [], f => ⟨fun i => .inl rfl, fun i w h => ⟨w, h, Int.le_refl _⟩, fun x h => by cases h⟩
  | x :: L, f => by
    obtain ⟨a, b, c⟩ := fold_relax t L (relax t f x)
    obtain ⟨r1, w0, r2, r3, r4⟩ := relax_at (t := t) (f := f) (x := x)
    rw [List.foldl_cons]
    refine ⟨fun i => ?_, fun i w h => ?_, fun y hy => ?_⟩
    · rcases a i with h | ⟨y, hy, e, h⟩
      · by_cases z : i = x.2.2.1
        · subst z
          rw [h]
          rcases r1 with r1 | r1
          · exact .inl r1
          · exact .inr ⟨x, List.mem_cons_self, rfl, r1⟩
        · rw [h, relax_ne z]
          exact .inl rfl
      · exact .inr ⟨y, List.mem_cons_of_mem _ hy, e, h⟩
    · by_cases z : i = x.2.2.1
      · subst z
        obtain ⟨w', h1, h2⟩ := b _ _ r2
        exact ⟨w', h1, Int.le_trans h2 (r4 _ h)⟩
      · exact b i w (by rw [relax_ne z]; exact h)
    · rcases List.mem_cons.mp hy with rfl | hy
      · obtain ⟨w', h1, h2⟩ := b _ _ r2
        exact ⟨w', h1, Int.le_trans h2 r3⟩
      · exact c y hy
/-- what holds of the days that are told when the days ahead of n have been gone through -/
structure WI (bs : List (List RuleD)) (c g n : Int) (f : Wf) : Prop where
  start : f c = some (0, none)
  rng : ∀ i w, f i = some w → c ≤ i ∧ i ≤ g
  root : ∀ i t, f i = some (t, none) → i = c ∧ t = 0
  back : ∀ i t p, f i = some (t, some p) → p.2.1 = i ∧ c ≤ p.1 ∧ p.1 < i ∧ p.1 < n ∧ ∃ (u : We) (k : Nat) (rs : List RuleD) (x : Int), f p.1 = some u ∧ p.2.2 = k ∧ bs[k]? = some rs ∧ coinO rs p.1 i = some x ∧ t = u.1 + x
  closed : ∀ b w, b < n → f b = some w → ∀ (k : Nat) (rs : List RuleD) (e x : Int), bs[k]? = some rs → b < e → e ≤ g → coinO rs b e = some x → ∃ w', f e = some w' ∧ w'.1 ≤ w.1 + x
theorem WI.zero {bs : List (List RuleD)} {c g : Int} (h : c ≤ g) : WI bs c g c (way0 c) := by
  have e : ∀ i w, way0 c i = some w → i = c ∧ w = (0, none) := fun i w q => by
    unfold way0 at q
    by_cases z : i = c
    · rw [if_pos z] at q; cases q; exact ⟨z, rfl⟩
    · rw [if_neg z] at q; cases q
  refine ⟨if_pos rfl, fun i w q => ?_, fun i t q => ?_, fun i t p q => ?_, fun b w hb q => ?_⟩
  · have := e i w q; omega
  · obtain ⟨h1, h2⟩ := e i _ q
    cases h2
    exact ⟨h1, rfl⟩
  · obtain ⟨-, h2⟩ := e i _ q
    cases h2
  · have := e b w q; omega
theorem dayW_cases (bs : List (List RuleD)) (g : Int) (f : Wf) (d : Int) : (f d = none ∧ dayW bs g f d = f) ∨ ∃ w, f d = some w ∧ dayW bs g f d = (partsAll d g 0 bs).foldl (relax w.1) f := by
  unfold dayW
  cases h : f d with
  | none => exact .inl ⟨rfl, rfl⟩
  | some w => exact .inr ⟨w, rfl, rfl⟩
theorem dayW_stay {bs : List (List RuleD)} {g : Int} {f : Wf} {d i : Int} (h : i ≤ d) : dayW bs g f d i = f i := by
  rcases dayW_cases bs g f d with ⟨-, e⟩ | ⟨w, -, e⟩
  · rw [e]
  · rw [e]
    rcases (fold_relax w.1 (partsAll d g 0 bs) f).1 i with h1 | ⟨x, hx, h1, -⟩
    · exact h1
    · have := mem_partsAll.mp hx
      omega
theorem WI.step {bs : List (List RuleD)} {c g n : Int} {f : Wf} (h : WI bs c g n f) (hc : c ≤ n) (hn : n < g) : WI bs c g (n + 1) (dayW bs g f n) := by
  rcases dayW_cases bs g f n with ⟨z, e⟩ | ⟨w0, z, e⟩
  · rw [e]
    refine ⟨h.start, h.rng, h.root, fun i t p q => ?_, fun b w hb q => ?_⟩
    · obtain ⟨a1, a2, a3, a4, a5⟩ := h.back i t p q
      exact ⟨a1, a2, a3, by omega, a5⟩
    · by_cases y : b = n
      · rw [y, z] at q; cases q
      · exact h.closed b w (by omega) q
  · have st : ∀ i, i ≤ n → dayW bs g f n i = f i := fun i hi => dayW_stay hi
    obtain ⟨fa, fb, fc⟩ := fold_relax w0.1 (partsAll n g 0 bs) f
    rw [← e] at fa fb fc
    have kp : ∀ i u, f i = some u → ∃ w', dayW bs g f n i = some w' ∧ w'.1 ≤ u.1 := fb
    refine ⟨by rw [st c hc]; exact h.start, fun i w q => ?_, fun i t q => ?_, fun i t p q => ?_, fun b w hb q k rs e' x hk he hg hx => ?_⟩
    · rcases fa i with h1 | ⟨x, hx, h1, -⟩
      · rw [h1] at q; exact h.rng i w q
      · have := mem_partsAll.mp hx
        omega
    · rcases fa i with h1 | ⟨x, hx, h1, h2⟩
      · rw [h1] at q; exact h.root i t q
      · rw [h2] at q; cases q
    · rcases fa i with h1 | ⟨x, hx, h1, h2⟩
      · rw [h1] at q
        obtain ⟨a1, a2, a3, a4, u, k, rs, x, b1, b2, b3, b4, b5⟩ := h.back i t p q
        exact ⟨a1, a2, a3, by omega, u, k, rs, x, by rw [st _ (by omega)]; exact b1, b2, b3, b4, b5⟩
      · rw [h2] at q
        cases q
        obtain ⟨m1, m2, m3, k, rs, m4, m5, m6⟩ := mem_partsAll.mp hx
        subst h1
        exact ⟨rfl, by rw [m1]; exact hc, by rw [m1]; exact m2, by rw [m1]; omega, w0, k, rs, x.1, by rw [m1, st _ (Int.le_refl _)]; exact z, by omega, m5, by rw [m1]; exact m6, rfl⟩
    · rw [st b (by omega)] at q
      by_cases y : b = n
      · subst y
        rw [z] at q
        cases q
        obtain ⟨w', h1, h2⟩ := fc (x, (b, e', (k : Int))) (mem_partsAll.mpr ⟨rfl, he, hg, k, rs, by simp, hk, hx⟩)
        exact ⟨w', h1, h2⟩
      · obtain ⟨w', h1, h2⟩ := h.closed b w (by omega) q k rs e' x hk he hg hx
        obtain ⟨w'', h3, h4⟩ := kp e' w' h1
        exact ⟨w'', h3, by omega⟩
theorem fold_WI {bs : List (List RuleD)} {c g : Int} (h : c ≤ g) : ∀ n : Nat, c + (n : Int) ≤ g → WI bs c g (c + n) (((days c g).take n).foldl (dayW bs g) (way0 c))
  | 0, _ => by simpa using WI.zero (bs := bs) h
  | n + 1, hn => by
    have := fold_WI (bs := bs) h n (by push_cast at hn; omega)
    have e : (days c g)[n]? = some (c + (n : Int)) := days_get (by push_cast at hn; omega)
    rw [List.take_add_one, e, List.foldl_append]
    have := this.step (by omega) (by push_cast at hn; omega)
    show WI bs c g (c + ((n + 1 : Nat) : Int)) _
    rw [show c + ((n + 1 : Nat) : Int) = c + (n : Int) + 1 by push_cast; omega]
    exact this
theorem ways_WI (bs : List (List RuleD)) {c g : Int} (h : c ≤ g) : WI bs c g g (waysF bs c g) := by
  have := fold_WI (bs := bs) h (g - c).toNat (by omega)
  rw [List.take_of_length_le (by rw [days_len]; exact Nat.le_refl _), show c + (((g - c).toNat : Nat) : Int) = g by omega] at this
  exact this
/-- the parts of a way to a day -/
def cutF (f : Wf) : Nat → Int → List Pt
  | 0, _ => []
  | n + 1, d => match f d with
    | some (_, some p) => cutF f n p.1 ++ [p]
    | _ => []
def costF (f : Wf) (d : Int) : Int := ((f d).getD (0, none)).1
/-- parts one behind the other -/
def chain (P : Pt → Prop) : Int → Int → List Pt → Prop
  | a, b, [] => a = b
  | a, b, p :: r => p.1 = a ∧ P p ∧ chain P p.2.1 b r
/-- a part of the days c to g -/
def PtOk (bs : List (List RuleD)) (c g : Int) (p : Pt) : Prop := c ≤ p.1 ∧ p.1 < p.2.1 ∧ p.2.1 ≤ g ∧ ∃ (k : Nat) (rs : List RuleD), p.2.2 = k ∧ bs[k]? = some rs ∧ hadB rs p.1 p.2.1 = true
def ptCost (bs : List (List RuleD)) (p : Pt) : Int := match bs[p.2.2.toNat]? with
  | some rs => sumD rs p.1 p.2.1
  | none => 0
def costsF (f : Wf) (c g : Int) : List Int := (days c (g + 1)).filterMap fun d => (f d).map (·.1)
def mostF (f : Wf) (c g : Int) : Int := (costsF f c g).foldl max 0
def heightF (f : Wf) (c g d : Int) : Int := match f d with | some w => w.1 | none => mostF f c g
def paperF (f : Wf) (c g : Int) : List Int := (days c g).map fun d => heightF f c g (d + 1) - heightF f c g d
def shutF (f : Wf) (c g : Int) : List Int := (days c (g + 1)).filter fun d => (f d).isSome
theorem max_le : ∀ (l : List Int) (a : Int), a ≤ l.foldl max a ∧ ∀ x ∈ l, x ≤ l.foldl max a
  | [], a => ⟨Int.le_refl _, fun x h => by cases h⟩
  | y :: l, a => by
    obtain ⟨h1, h2⟩ := max_le l (max a y)
    refine ⟨by rw [List.foldl_cons]; omega, fun x hx => ?_⟩
    rw [List.foldl_cons]
    rcases List.mem_cons.mp hx with rfl | hx
    · omega
    · exact h2 x hx
theorem max_in : ∀ (l : List Int) (a : Int), l.foldl max a = a ∨ l.foldl max a ∈ l
  | [], a => .inl rfl
  | y :: l, a => by
    rw [List.foldl_cons]
    rcases max_in l (max a y) with h | h
    · rw [h]
      by_cases z : a ≤ y
      · exact .inr (by rw [show max a y = y by omega]; exact List.mem_cons_self)
      · exact .inl (by omega)
    · exact .inr (List.mem_cons_of_mem _ h)
theorem mem_costs {f : Wf} {c g x : Int} : x ∈ costsF f c g ↔ ∃ d w, c ≤ d ∧ d ≤ g ∧ f d = some w ∧ w.1 = x := by
  unfold costsF
  rw [List.mem_filterMap]
  constructor
  · rintro ⟨d, hd, h⟩
    have := mem_days.mp hd
    cases e : f d with
    | none => rw [e] at h; cases h
    | some w => rw [e] at h; exact ⟨d, w, by omega, by omega, e, Option.some.inj h⟩
  · rintro ⟨d, w, h1, h2, h3, h4⟩
    exact ⟨d, mem_days.mpr ⟨h1, by omega⟩, by rw [h3, ← h4]; rfl⟩
theorem le_most {bs : List (List RuleD)} {c g n : Int} {f : Wf} (h : WI bs c g n f) {d : Int} {w : We} (hd : f d = some w) : w.1 ≤ mostF f c g := by
  have := h.rng d w hd
  exact (max_le _ _).2 _ (mem_costs.mpr ⟨d, w, this.1, this.2, hd, rfl⟩)
/-- the greatest of the costs, however it is found -/
theorem most_is {bs : List (List RuleD)} {c g n : Int} {f : Wf} (h : WI bs c g n f) {m : Int} (h1 : ∃ d w, f d = some w ∧ w.1 = m) (h2 : ∀ d w, f d = some w → w.1 ≤ m) : m = mostF f c g := by
  obtain ⟨d, w, e, rfl⟩ := h1
  have a := le_most h e
  have b : mostF f c g ≤ w.1 := by
    rcases max_in (costsF f c g) 0 with z | z
    · have := h2 c _ h.start
      unfold mostF
      rw [z]
      exact this
    · obtain ⟨d', w', -, -, e', q⟩ := mem_costs.mp z
      have := h2 d' w' e'
      unfold mostF
      omega
  omega
/-! YDi: dicts by whole numbers. -/
open PySem PySem.Spec PyProof.Rows L2
abbrev Df := Int → Option PyData
def OTd (H : Hp) : Option V → Option PyData → Prop
  | some v, some d => Td H v d
  | none, none => True
  | _, _ => False
theorem OTd.tk {H H' : Hp} (k : Tk H H') : ∀ {v : Option V} {d : Option PyData}, OTd H v d → OTd H' v d
  | some _, some _, h => Td.tk k h
  | none, none, _ => trivial
  | some _, none, h => h
  | none, some _, h => h
/-- a dict of whole numbers stands at a -/
def DicI (H : Hp) (a : Addr) (F : Df) : Prop := ∃ (kvs : List (Key × V)) (ks : List Int), H a = some (.dK kvs) ∧ kvs.map (·.1) = ks.map Sum.inl ∧ ks.Nodup ∧ ∀ i : Int, OTd H (valV kvs (.inl i)) (F i)
def dset (F : Df) (i : Int) (d : PyData) : Df := fun j => if j = i then some d else F j
theorem dic_keys {H : Hp} {kvs : List (Key × V)} {ks : List Int} {F : Df} (e : kvs.map (·.1) = ks.map Sum.inl) (h : ∀ i : Int, OTd H (valV kvs (.inl i)) (F i)) (i : Int) : i ∈ ks ↔ (F i).isSome = true := by
  have h1 := h i
  have mem : (Sum.inl i : Key) ∈ kvs.map (·.1) ↔ i ∈ ks := by
    rw [e, List.mem_map]
    constructor
    · rintro ⟨j, hj, q⟩
      cases q
      exact hj
    · exact fun hi => ⟨i, hi, rfl⟩
  rw [← mem]
  cases hv : valV kvs (.inl i) with
  | none =>
    have nm := valV_not hv
    rw [hv] at h1
    cases hF : F i with
    | none => simp; exact fun x hx => nm (List.mem_map.mpr ⟨_, hx, rfl⟩)
    | some d => rw [hF] at h1; exact h1.elim
  | some v =>
    have im := valV_in hv
    rw [hv] at h1
    cases hF : F i with
    | none => rw [hF] at h1; exact h1.elim
    | some d => exact ⟨fun _ => rfl, fun _ => im⟩
theorem nodup_len : ∀ (n : Nat) (lo : Int) (l : List Int), l.Nodup → (∀ i ∈ l, lo ≤ i ∧ i < lo + n) → l.length ≤ n
  | 0, lo, [], _, _ => Nat.le_refl _
  | 0, lo, x :: l, _, h => by have := h x List.mem_cons_self; omega
  | n + 1, lo, l, hd, h => by
    by_cases m : lo + (n : Int) ∈ l
    · have h1 := nodup_len n lo (l.erase (lo + n)) (hd.erase _) fun i hi => by
        have h2 := (List.Nodup.mem_erase_iff hd).mp hi
        have h3 := h i h2.2
        push_cast at h3
        omega
      rw [List.length_erase_of_mem m] at h1
      omega
    · have h1 := nodup_len n lo l hd fun i hi => by
        have h3 := h i hi
        have h4 : i ≠ lo + n := fun z => m (z ▸ hi)
        push_cast at h3
        omega
      omega
theorem dic_len {H : Hp} {kvs : List (Key × V)} {ks : List Int} {F : Df} (e : kvs.map (·.1) = ks.map Sum.inl) (nd : ks.Nodup) (h : ∀ i : Int, OTd H (valV kvs (.inl i)) (F i)) {lo : Int} {n : Nat} (r : ∀ i, (F i).isSome = true → lo ≤ i ∧ i < lo + n) : ks.length ≤ n ∧ kvs.length = ks.length := by
  refine ⟨nodup_len n lo ks nd fun i hi => r i ((dic_keys e h i).mp hi), ?_⟩
  have := congrArg List.length e
  simpa using this
theorem DicI.kept {H H' : Hp} {a : Addr} {F : Df} (k : Tk H H') (at_ : ∀ o, H a = some o → H' a = some o) (h : DicI H a F) : DicI H' a F := by
  obtain ⟨kvs, ks, h1, h2, h3, h4⟩ := h
  exact ⟨kvs, ks, at_ _ h1, h2, h3, fun i => (h4 i).tk k⟩
theorem dc_same {H H' : Hp} {a : Addr} {F : Df} (s : Same H H') (h : DicI H a F) : DicI H' a F := h.kept (Same.tk s) fun o e => s _ _ e
theorem dc_new {H : Hp} {a p : Addr} {o : HO} {F : Df} (hp : Fr H p) (h : DicI H a F) : DicI (upd H p o) a F := dc_same (same_new hp) h
theorem dc_put {H : Hp} {a p : Addr} {zs : List V} {o : HO} {F : Df} (hp : H p = some (.lst zs)) (h : DicI H a F) : DicI (upd H p o) a F := h.kept (tk_put hp) fun o e => at_ne (fun z => by
  obtain ⟨kvs, ks, h1, -⟩ := h
  rw [z, hp] at h1
  cases h1) e
theorem g_dg {td ty : TE} {σ : L2.St} {H : Hp} {Q : VK} (h : td σ H fun x H1 => ty σ H1 fun y H2 => ∃ a v, x = .ref a ∧ DGet H2 a y (some v) ∧ Q v H2) : tDGet td ty σ H Q := h
theorem g_din {td ty : TE} {σ : L2.St} {H : Hp} {Q : VK} (h : ty σ H fun y H1 => td σ H1 fun x H2 => ∃ a o, x = .ref a ∧ DGet H2 a y o ∧ Q (.bl o.isSome) H2) : tDIn ty td σ H Q := h
theorem g_dnin {td ty : TE} {σ : L2.St} {H : Hp} {Q : VK} (h : ty σ H fun y H1 => td σ H1 fun x H2 => ∃ a o, x = .ref a ∧ DGet H2 a y o ∧ Q (.bl (!o.isSome)) H2) : tDNotIn ty td σ H Q := h
theorem g_sdput {td ty tv : TE} {D : Ends} {σ : L2.St} {H : Hp} (h : tv σ H fun v H1 => td σ H1 fun x H2 => ty σ H2 fun y H3 => ∃ a H4, x = .ref a ∧ DPut H3 a y v H4 ∧ D.nx σ H4) : sDPut td ty tv D σ H := h
theorem di_get {H : Hp} {a : Addr} {F : Df} {i : Int} {d : PyData} {R : V → Prop} (h : DicI H a F) (e : F i = some d) (q : ∀ v, Td H v d → R v) : ∃ a' v, V.ref a = .ref a' ∧ DGet H a' (.int i) (some v) ∧ R v := by
  obtain ⟨kvs, ks, h1, h2, h3, h4⟩ := h
  have h5 := h4 i
  rw [e] at h5
  cases hv : valV kvs (.inl i) with
  | none => rw [hv] at h5; exact h5.elim
  | some v =>
    rw [hv] at h5
    refine ⟨a, v, rfl, ?_, q v h5⟩
    have := DGet.k (k := Sum.inl i) h1
    rw [hv] at this
    exact this
theorem dic_o {H : Hp} {a : Addr} {F : Df} (h : DicI H a F) (i : Int) : ∃ o, DGet H a (.int i) o ∧ o.isSome = (F i).isSome := by
  obtain ⟨kvs, ks, h1, h2, h3, h4⟩ := h
  have h5 := h4 i
  refine ⟨_, DGet.k (k := Sum.inl i) h1, ?_⟩
  cases hv : valV kvs (.inl i) with
  | none =>
    rw [hv] at h5
    cases hF : F i with
    | none => rfl
    | some d => rw [hF] at h5; exact h5.elim
  | some v =>
    rw [hv] at h5
    cases hF : F i with
    | none => rw [hF] at h5; exact h5.elim
    | some d => rfl
theorem di_in {H : Hp} {a : Addr} {F : Df} {i : Int} {R : Option V → Prop} (h : DicI H a F) (q : ∀ o : Option V, o.isSome = (F i).isSome → R o) : ∃ a' o, V.ref a = .ref a' ∧ DGet H a' (.int i) o ∧ R o := by
  obtain ⟨o, h1, h2⟩ := dic_o h i
  exact ⟨a, o, rfl, h1, q o h2⟩
theorem di_put {H : Hp} {a : Addr} {F : Df} {i : Int} {v : V} {d : PyData} {R : Hp → Prop} (h : DicI H a F) (t : Td H v d) {lo : Int} {n : Nat} (r : ∀ j, (F j).isSome = true → lo ≤ j ∧ j < lo + n) (hn : n < 100000)
    (q : ∀ H', Kp [a] H H' → Tk H H' → DicI H' a (dset F i d) → R H') : ∃ a' H4, V.ref a = .ref a' ∧ DPut H a' (.int i) v H4 ∧ R H4 := by
  obtain ⟨kvs, ks, h1, h2, h3, h4⟩ := h
  have hl := dic_len h2 h3 h4 r
  refine ⟨a, _, rfl, DPut.k (k := Sum.inl i) h1 (by have : sizeLine = 16777216 := rfl; omega), ?_⟩
  have tk : Tk H (upd H a (.dK (putK kvs (Sum.inl i) v))) := (ik_dic h1).tup
  refine q _ (kp_upd (by simp)) tk ?_
  have hv : ∀ j : Int, OTd (upd H a (.dK (putK kvs (Sum.inl i) v))) (valV (putK kvs (Sum.inl i) v) (.inl j)) (dset F i d j) := fun j => by
    rw [valV_put]
    unfold dset
    by_cases z : j = i
    · rw [if_pos z, if_pos (by rw [z])]
      exact t.tk tk
    · rw [if_neg z, if_neg (fun e => z (Sum.inl.inj e))]
      exact (h4 j).tk tk
  cases ho : valV kvs (.inl i) with
  | none =>
    refine ⟨_, ks ++ [i], upd_same, ?_, ?_, hv⟩
    · rw [putK_new v ho, List.map_append, List.map_append, h2]
      rfl
    · rw [List.nodup_append]
      refine ⟨h3, by simp, fun x hx y hy z => ?_⟩
      obtain rfl : y = i := by simpa using hy
      have := (dic_keys h2 h4 x).mp hx
      have h5 := h4 x
      rw [z] at this h5
      rw [ho] at h5
      obtain ⟨w, hw⟩ := Option.isSome_iff_exists.mp this
      rw [hw] at h5
      exact h5
  | some w =>
    refine ⟨_, ks, upd_same, ?_, h3, hv⟩
    have : (kvs.any fun kv => decide (kv.1 = Sum.inl i)) = true := by rw [valV_any, ho]; rfl
    unfold putK
    rw [if_pos this, List.map_map, ← h2]
    refine List.map_congr_left fun kv _ => ?_
    show (if kv.1 = Sum.inl i then (kv.1, v) else kv).1 = kv.1
    split <;> rfl
abbrev rSortDI : List V → Hp → VK → Prop := fun xs H Q => ∃ (a : Addr) (kvs : List (Key × V)) (ks : List Int), xs = [.ref a] ∧ Rd H a (.dK kvs) ∧ kvs.map (·.1) = ks.map Sum.inl ∧ ks.length < 64 ∧
    ∀ (ys : List Int) (p : Addr), ys.Perm ks → ys.Pairwise (· ≤ ·) → H p = none → Q (.ref p) (upd H p (.lst (ys.map V.int)))
theorem cr_sortDI {X : Cx} (hc : X.calm = true) : CallR X (.builtin "sorted") rSortDI := call_sortedDI hc
theorem sorted_ext : ∀ {l m : List Int}, l.Pairwise (· < ·) → m.Pairwise (· < ·) → (∀ x, x ∈ l ↔ x ∈ m) → l = m
  | [], [], _, _, _ => rfl
  | [], y :: m, _, _, h => by have := (h y).mpr List.mem_cons_self; cases this
  | x :: l, [], _, _, h => by have := (h x).mp List.mem_cons_self; cases this
  | x :: l, y :: m, hl, hm, h => by
    have hl' := List.pairwise_cons.mp hl
    have hm' := List.pairwise_cons.mp hm
    have xy : x = y := by
      rcases List.mem_cons.mp ((h x).mp List.mem_cons_self) with e | e
      · exact e
      · rcases List.mem_cons.mp ((h y).mpr List.mem_cons_self) with e' | e'
        · exact e'.symm
        · have := hl'.1 y e'
          have := hm'.1 x e
          omega
    subst xy
    rw [sorted_ext hl'.2 hm'.2 fun z => ?_]
    constructor
    · intro hz
      rcases List.mem_cons.mp ((h z).mp (List.mem_cons_of_mem _ hz)) with e | e
      · subst e; have := hl'.1 z hz; omega
      · exact e
    · intro hz
      rcases List.mem_cons.mp ((h z).mpr (List.mem_cons_of_mem _ hz)) with e | e
      · subst e; have := hm'.1 z hz; omega
      · exact e
theorem perm_sorted {ys ks m : List Int} (p : ys.Perm ks) (s : ys.Pairwise (· ≤ ·)) (nd : ks.Nodup) (hm : m.Pairwise (· < ·)) (h : ∀ x, x ∈ ks ↔ x ∈ m) : ys = m := by
  refine sorted_ext ?_ hm fun x => by rw [p.mem_iff]; exact h x
  have nd' : ys.Nodup := p.nodup_iff.mpr nd
  have := s.and nd'
  exact this.imp fun ⟨a, b⟩ => by omega
theorem g_sortDI {H : Hp} {a : Addr} {F : Df} {m : List Int} {Q : VK} (h : DicI H a F) (hm : m.Pairwise (· < ·)) (hx : ∀ x, (F x).isSome = true ↔ x ∈ m) (hl : m.length < 64) (q : ∀ p, Fr H p → Q (.ref p) (upd H p (.lst (m.map V.int)))) : rSortDI [.ref a] H Q := by
  obtain ⟨kvs, ks, h1, h2, h3, h4⟩ := h
  have hk : ∀ x, x ∈ ks ↔ x ∈ m := fun x => (dic_keys h2 h4 x).trans (hx x)
  have hlen : ks.length = m.length := List.Perm.length_eq ((List.perm_ext_iff_of_nodup h3 (hm.imp fun a => by omega)).mpr hk)
  refine ⟨a, kvs, ks, rfl, Rd.of h1, h2, by omega, fun ys p pm s hp => ?_⟩
  rw [perm_sorted pm s h3 hm hk]
  exact q p hp
/-- the values of a locked dict -/
theorem walk_vals {d : Addr} {o : Obj} {kvs : List (Key × V)} : Walk (Itd d o kvs) kvs.length (fun H => H d = some (.frz o (.dK kvs))) (fun i H x H' => H' = H ∧ ∃ k, kvs[i]? = some (k, x)) :=
  ⟨fun i H hi h => ⟨h, hi⟩, fun H h => ⟨h, Nat.le_refl _⟩, fun i H x H' _ _ y => y⟩
theorem unlock_same {H H' : Hp} {d : Addr} {u w : HO} (h : H d = some u) (s : Same (upd H d w) H') : Same H (upd H' d u) := fun b x e => by
  by_cases z : b = d
  · subst z
    rw [h] at e
    cases e
    exact upd_same
  · exact at_ne z (s _ _ (at_ne z e))
/-! YBe: the best of a stay. -/
open PySem PySem.Spec PyProof.Rows L2
def ptD (p : Pt) : PyData := .tuple [.int p.1, .int p.2.1, .int p.2.2]
def partD (x : Int × Pt) : PyData := .tuple [.int x.1, ptD x.2]
def poD : Option Pt → PyData | some p => ptD p | none => .none
def weD (w : We) : PyData := .tuple [.int w.1, poD w.2]
def wfD (f : Wf) : Df := fun i => (f i).map weD
theorem wfD_set (f : Wf) (i : Int) (w : We) : wfD (fset f i w) = dset (wfD f) i (weD w) := by
  funext j
  unfold wfD fset dset
  split <;> rfl
theorem wfD_some {f : Wf} {i : Int} {w : We} (h : f i = some w) : wfD f i = some (weD w) := by unfold wfD; rw [h]; rfl
theorem wfD_is (f : Wf) (i : Int) : (wfD f i).isSome = (f i).isSome := by unfold wfD; cases f i <;> rfl
/-- the books and the stay that are handed in -/
structure Bst (K : PySem.W.Frag) (H : Hp) (p a : Addr) (vs : List V) (bs : List (List RuleD)) (c g : Int) : Prop where
  seq : SqL K H p vs
  bks : Paired (AkAt K H) vs bs
  good : GoodB bs
  few : bs.length ≤ 10
  st : SqT K H a [.int c, .int g]
  stay : StayB c g
theorem Bst.same {K : PySem.W.Frag} {H H' : Hp} {p a : Addr} {vs : List V} {bs : List (List RuleD)} {c g : Int} (s : Same H H') (h : Bst K H p a vs bs c g) : Bst K H' p a vs bs c g :=
  ⟨Same.seq s h.seq, Paired.mapP h.bks fun _ _ q => q.same s, h.good, h.few, Same.seqT s h.st, h.stay⟩
def sp_parts_from (K : PySem.W.Frag) : Sp := Sp3 fun v y z H Q E => CFR K ∧ CFB K ∧ ∃ (p a : Addr) (vs : List V) (bs : List (List RuleD)) (c g d : Int), v = .ref p ∧ y = .ref a ∧ z = .int d ∧ Bst K H p a vs bs c g ∧ c ≤ d ∧ d < g ∧
  ∀ (q : Addr) (ys : List V) (H' : Hp), Same H H' → Fr H q → H' q = some (.lst ys) → Tds H' ys ((partsAll d g 0 bs).map partD) → Q (.ref q) H'
theorem g_parts_from {K : PySem.W.Frag} {p a : Addr} {vs : List V} {bs : List (List RuleD)} {c g d : Int} {H : Hp} {Q : VK} {E : XK} (cf : CFR K) (cb : CFB K) (h : Bst K H p a vs bs c g) (h0 : c ≤ d) (h1 : d < g)
    (q : ∀ (q : Addr) (ys : List V) (H' : Hp), Same H H' → Fr H q → H' q = some (.lst ys) → Tds H' ys ((partsAll d g 0 bs).map partD) → Q (.ref q) H') : sp_parts_from K ([.ref p, .ref a, .int d] ++ []) H Q E := ⟨_, _, _, rfl, cf, cb, p, a, vs, bs, c, g, d, rfl, rfl, rfl, h, h0, h1, q⟩
def sp_ways (K : PySem.W.Frag) : Sp := Sp2 fun v y H Q E => CFR K ∧ CFB K ∧ ∃ (p a : Addr) (vs : List V) (bs : List (List RuleD)) (c g : Int), v = .ref p ∧ y = .ref a ∧ Bst K H p a vs bs c g ∧
  ∀ (q : Addr) (H' : Hp), Same H H' → Fr H q → DicI H' q (wfD (waysF bs c g)) → Q (.ref q) H'
theorem g_ways {K : PySem.W.Frag} {p a : Addr} {vs : List V} {bs : List (List RuleD)} {c g : Int} {H : Hp} {Q : VK} {E : XK} (cf : CFR K) (cb : CFB K) (h : Bst K H p a vs bs c g)
    (q : ∀ (q : Addr) (H' : Hp), Same H H' → Fr H q → DicI H' q (wfD (waysF bs c g)) → Q (.ref q) H') : sp_ways K ([.ref p, .ref a] ++ []) H Q E := ⟨_, _, rfl, cf, cb, p, a, vs, bs, c, g, rfl, rfl, h, q⟩
def sp_cut_by (K : PySem.W.Frag) : Sp := Sp2 fun v y H Q E => ∃ (dd : Addr) (bs : List (List RuleD)) (c g n d : Int) (f : Wf) (w : We), v = .ref dd ∧ y = .int d ∧ DicI H dd (wfD f) ∧ WI bs c g n f ∧ g ≤ c + 50 ∧ f d = some w ∧
  ∀ (q : Addr) (ys : List V) (H' : Hp), Same H H' → Fr H q → H' q = some (.lst ys) → Tds H' ys ((cutF f (d - c + 1).toNat d).map ptD) → Q (.ref q) H'
def sp_paper_by (K : PySem.W.Frag) : Sp := Sp2 fun v y H Q E => ∃ (dd a : Addr) (bs : List (List RuleD)) (c g n : Int) (f : Wf), v = .ref dd ∧ y = .ref a ∧ SqT K H a [.int c, .int g] ∧ StayB c g ∧ DicI H dd (wfD f) ∧ WI bs c g n f ∧
  ∀ (q : Addr) (H' : Hp), Same H H' → Fr H q → H' q = some (.lst ((paperF f c g).map V.int)) → Q (.ref q) H'
theorem dic_one {H : Hp} {a : Addr} {c : Int} {v : V} {w : We} (h : H a = some (.dK (mergeK [] [(.inl c, v)]))) (t : Td H v (weD w)) : DicI H a (wfD fun i => if i = c then some w else none) := by
  refine ⟨_, [c], h, rfl, by simp, fun i => ?_⟩
  show OTd H (valV [(Sum.inl c, v)] (.inl i)) _
  unfold wfD
  by_cases z : i = c
  · rw [valV_pos (by rw [z])]
    dsimp only
    rw [if_pos z]
    exact t
  · rw [valV_neg (fun e => z (Sum.inl.inj e).symm), valV_nil]
    dsimp only
    rw [if_neg z]
    exact trivial
theorem sm_put {H H1 H2 : Hp} {d : Addr} (f : Fr H d) (s : Same H H1) (k : Kp [d] H1 H2) : Same H H2 := fun b x e => k _ _ (s _ _ e) fun z => by
  have : b = d := by simpa using z
  rw [this, f] at e
  cases e
theorem td_we {H : Hp} {v : V} {w : We} (h : Td H v (weD w)) : ∃ t u, v = .ref t ∧ H t = some (.tup [.int w.1, u]) ∧ Td H u (poD w.2) := by
  unfold weD at h
  cases h with
  | tup h r =>
    cases r with
    | cons a r =>
      cases r with
      | cons b r =>
        cases r
        cases a
        exact ⟨_, _, rfl, h, b⟩
theorem td_pt {H : Hp} {v : V} {w : Pt} (h : Td H v (ptD w)) : ∃ t, v = .ref t ∧ H t = some (.tup [.int w.1, .int w.2.1, .int w.2.2]) := by
  unfold ptD at h
  cases h with
  | tup h r =>
    cases r with
    | cons a r =>
      cases r with
      | cons b r =>
        cases r with
        | cons d r =>
          cases r
          cases a
          cases b
          cases d
          exact ⟨_, rfl, h⟩
theorem td_part {H : Hp} {v : V} {w : Int × Pt} (h : Td H v (partD w)) : ∃ t u, v = .ref t ∧ H t = some (.tup [.int w.1, .ref u]) ∧ H u = some (.tup [.int w.2.1, .int w.2.2.1, .int w.2.2.2]) := by
  unfold partD at h
  cases h with
  | tup h r =>
    cases r with
    | cons a r =>
      cases r with
      | cons b r =>
        cases r
        cases a
        obtain ⟨t, rfl, e⟩ := td_pt b
        exact ⟨_, t, rfl, h, e⟩
theorem days_atF (h : Int → Int) {c g i : Int} (h0 : 0 ≤ i) (hi : i < g - c) : atI (((days c g).map h).map V.int) i = some (.int (h (c + i))) := by
  have e : ((i.toNat : Nat) : Int) = i := by omega
  have h2 := atI_nat (xs := ((days c g).map h).map V.int) (j := i.toNat) (v := .int (h (c + i))) (by rw [List.getElem?_map, List.getElem?_map, days_get (by omega), e]; rfl)
  rwa [e] at h2
theorem g_iVals {td : TE} {σ : L2.St} {H : Hp} {R : It → Hp → Prop} (h : td σ H fun x H1 => ∃ d o kvs, x = .ref d ∧ H1 d = some (.frz o (.dK kvs)) ∧ R (Itd d o kvs) H1) : iVals td σ H R := h
theorem g_max {K : PySem.W.Frag} {H : Hp} {Q : VK} {p : Addr} {ns : List Int} (h : SqL K H p (ns.map V.int)) (l : 0 < ns.length) (q : ∀ m, m ∈ ns → (∀ y ∈ ns, y ≤ m) → Q (.int m) H) : rMax K [.ref p] H Q := ⟨p, ns, rfl, h, l, q⟩
theorem g_cut_by {K : PySem.W.Frag} {dd : Addr} {bs : List (List RuleD)} {c g n d : Int} {f : Wf} {w : We} {H : Hp} {Q : VK} {E : XK} (h : DicI H dd (wfD f)) (hW : WI bs c g n f) (hg : g ≤ c + 50) (hd : f d = some w)
    (q : ∀ (q : Addr) (ys : List V) (H' : Hp), Same H H' → Fr H q → H' q = some (.lst ys) → Tds H' ys ((cutF f (d - c + 1).toNat d).map ptD) → Q (.ref q) H') : sp_cut_by K ([.ref dd, .int d] ++ []) H Q E := ⟨_, _, rfl, dd, bs, c, g, n, d, f, w, rfl, rfl, h, hW, hg, hd, q⟩
theorem g_paper_by {K : PySem.W.Frag} {dd a : Addr} {bs : List (List RuleD)} {c g n : Int} {f : Wf} {H : Hp} {Q : VK} {E : XK} (s : SqT K H a [.int c, .int g]) (st : StayB c g) (h : DicI H dd (wfD f)) (hW : WI bs c g n f)
    (q : ∀ (q : Addr) (H' : Hp), Same H H' → Fr H q → H' q = some (.lst ((paperF f c g).map V.int)) → Q (.ref q) H') : sp_paper_by K ([.ref dd, .ref a] ++ []) H Q E := ⟨_, _, rfl, dd, a, bs, c, g, n, f, rfl, rfl, s, st, h, hW, q⟩
def offB (bs : List (List RuleD)) (c g : Int) : Bool := (waysF bs c g g).isNone
def cutL (bs : List (List RuleD)) (c g : Int) : List Pt := cutF (waysF bs c g) (g - c + 1).toNat g
def coinsL (bs : List (List RuleD)) (c g : Int) : Int := costF (waysF bs c g) g
def paperL (bs : List (List RuleD)) (c g : Int) : List Int := paperF (waysF bs c g) c g
def shutL (bs : List (List RuleD)) (c g : Int) : List Int := shutF (waysF bs c g) c g
def QOff (bs : List (List RuleD)) (c g : Int) (H : Hp) (Q : VK) : Prop := offB bs c g = true → ∀ (p q : Addr) (H' : Hp), Same H H' → Fr H p → Fr H q → H' p = some (.tup [.str "off", .ref q]) → H' q = some (.lst ((shutL bs c g).map V.int)) → Q (.ref p) H'
def QHad (bs : List (List RuleD)) (c g : Int) (H : Hp) (Q : VK) : Prop := offB bs c g = false → ∀ (p q r : Addr) (ys : List V) (H' : Hp), Same H H' → Fr H p → Fr H q → Fr H r → q ≠ r → H' p = some (.tup [.str "had", .int (coinsL bs c g), .ref q, .ref r]) → H' q = some (.lst ys) → Tds H' ys ((cutL bs c g).map ptD) → H' r = some (.lst ((paperL bs c g).map V.int)) → Q (.ref p) H'
def sp_best (K : PySem.W.Frag) : Sp := Sp2 fun v y H Q E => CFR K ∧ CFB K ∧ ∃ (p a : Addr) (vs : List V) (bs : List (List RuleD)) (c g : Int), v = .ref p ∧ y = .ref a ∧ Bst K H p a vs bs c g ∧ QOff bs c g H Q ∧ QHad bs c g H Q
theorem g_best {K : PySem.W.Frag} {p a : Addr} {vs : List V} {bs : List (List RuleD)} {c g : Int} {H : Hp} {Q : VK} {E : XK} (cf : CFR K) (cb : CFB K) (h : Bst K H p a vs bs c g) (q1 : QOff bs c g H Q) (q2 : QHad bs c g H Q) : sp_best K ([.ref p, .ref a] ++ []) H Q E :=
  ⟨_, _, rfl, cf, cb, p, a, vs, bs, c, g, rfl, rfl, h, q1, q2⟩
def t_parts_from (K : PySem.W.Frag) : TS :=
  (tSeq (tAsg (tLst tNil) (gName 3))
  (tSeq (tFor (iEnum K (tCons (tVar 0) tNil)) (gTup K 2 (gCons (gName 4) (gCons (gName 5) gNil)))
  (tFor (iRng2 (tCons (tOp rAdd (tVar 2) (tC (.int 1))) (tCons (tOp rAdd (tOp (rIxT K) (tVar 1) (tC (.int 1))) (tC (.int 1))) tNil))) (gName 6)
  (tSeq (tAsg (tCall (sp_coins_of K) [] E0 (tCons (tVar 5) (tCons (tTup (tCons (tVar 2) (tCons (tVar 6) tNil))) tNil))) (gName 7))
  (tIfS (tTest (tOp rNotN (tVar 7) (tC .non)))
  (tDrop (tBM K "list" rAppend (tVar 3) (tCons (tTup (tCons (tVar 7) (tCons (tTup (tCons (tVar 2) (tCons (tVar 6) (tCons (tVar 4) tNil)))) tNil))) tNil)))
  tNext))))
  (tRet (tVar 3))))
theorem pure_parts_from {K : PySem.W.Frag} {v y z : V} {H : Hp} {Q : VK} {E : XK} (h : sp_parts_from K [v, y, z] H Q E) : t_parts_from K { nx := fun _ H' => Q .non H', rt := Q } [some v, some y, some z, none, none, none, none, none] H := by
  obtain ⟨v, y, z, e, cf, cb, p, a, vs, bs, c, g, d, rfl, rfl, rfl, B, d0, d1, q⟩ := h
  cases e
  unfold t_parts_from
  have hvl := Paired.length B.bks
  obtain ⟨c0, c1, c2, c3⟩ := B.stay
  walk_at "ss"
  rename_i fl hfl
  refine g_iEnum ?_
  walk_at "ss"
  have s0 : Same H (upd H fl (.lst [])) := same_new hfl
  refine ⟨p, vs, rfl, Same.seq s0 B.seq, ?_⟩
  have few := B.few
  refine for_it (walk_enum (K := K) (a := p) (xs := vs)) (fun i σ H' => ∃ v4 v5 v6 v7 ys, σ = [some (.ref p), some (.ref a), some (.int d), some (.ref fl), v4, v5, v6, v7] ∧ Same H H' ∧ H' fl = some (.lst ys) ∧ Tds H' ys ((partsAll d g 0 (bs.take i)).map partD) ∧ ys.length ≤ 20 * i)
    ⟨_, _, _, _, [], rfl, s0, upd_same, .nil, by simp⟩ (fun i σ H' _ h => by obtain ⟨_, _, _, _, _, _, h, _⟩ := h; exact Same.seq h B.seq) ?_ ?_
  · rintro i x σ H' H2 hi ⟨v4, v5, v6, v7, ys, rfl, sm, hys, hT, hyl⟩ ⟨T, x1, x2, rfl, hTf, rfl, h1, h2⟩
    replace hTf : Fr H' T := hTf
    replace h2 : vs[i]? = some x2 := h2
    obtain rfl : x1 = .int (i : Nat) := (Option.some.inj h1).symm
    obtain ⟨rs, hrs, hbk⟩ := Paired.getL B.bks h2
    have hi' : i < bs.length := (List.getElem?_eq_some_iff.mp hrs).1
    have gr : ∀ r ∈ rs, RuleD.good r := B.good rs (List.mem_of_getElem? hrs)
    have sm2 : Same H (upd H' T (.tup [.int (i : Nat), x2])) := sm_new hTf sm
    have ys2 : (upd H' T (.tup [.int (i : Nat), x2])) fl = some (.lst ys) := at_new hTf hys
    have T2 : Tds (upd H' T (.tup [.int (i : Nat), x2])) ys ((partsAll d g 0 (bs.take i)).map partD) := tds_new hTf hT
    have st := B.st
    have st2 : SqT K (upd H' T (.tup [.int (i : Nat), x2])) a [.int c, .int g] := Same.seqT sm2 st
    walk_at "ss"
    clear hTf hys hT sm
    generalize upd H' T (.tup [.int (i : Nat), x2]) = G at sm2 ys2 T2 st2 ⊢
    have rowl : ∀ k : Nat, (((days (d + 1) (g + 1)).take k).filterMap fun e => (coinO rs d e).map fun c => (c, ((d, e, ((i : Nat) : Int)) : Pt))).length ≤ k := fun k => by
      refine Nat.le_trans (List.length_filterMap_le _ _) ?_
      rw [List.length_take]
      exact Nat.min_le_left _ _
    refine for_range (lo := d + 1) (n := (g + 1 - (d + 1)).toNat) (fun k σ H3 => ∃ v6 v7 ys, σ = [some (.ref p), some (.ref a), some (.int d), some (.ref fl), some (.int (i : Nat)), some x2, v6, v7] ∧ Same H H3 ∧ H3 fl = some (.lst ys) ∧ Tds H3 ys ((partsAll d g 0 (bs.take i) ++ ((days (d + 1) (g + 1)).take k).filterMap fun e => (coinO rs d e).map fun c => (c, (d, e, ((i : Nat) : Int)))).map partD) ∧ ys.length ≤ 20 * i + k)
      ⟨_, _, ys, rfl, sm2, ys2, by simpa using T2, by omega⟩ ?_ ?_
    · clear sm2 ys2 T2 st2 hyl
      rintro k σ H3 hk ⟨v6, v7, ys, rfl, sm, hys, hT, hyl⟩
      obtain ⟨F, hB⟩ := hbk.same sm
      have hdk : (days (d + 1) (g + 1))[k]? = some (d + 1 + (k : Int)) := days_get (by omega)
      walk_at "ss"
      rename_i tp htp
      refine g_coins (F := F) cf cb (ab_new htp hB) gr (SqT.of upd_same) ⟨by omega, by omega, by omega, by omega⟩ fun H4 s4 => ?_
      have sm4 : Same H H4 := (sm_new htp sm).trans s4
      have hys4 := s4 _ _ (at_new htp hys)
      have hT4 := tds_same s4 (tds_new htp hT)
      rw [List.take_add_one, hdk]
      walk_at "ss"
      by_cases hh : hadB rs d (d + 1 + (k : Int)) = true
      · have ec : coinO rs d (d + 1 + (k : Int)) = some (sumD rs d (d + 1 + (k : Int))) := if_pos hh
        rw [if_pos hh]
        refine ite_ndf (by simp) ?_
        walk_at "ss"
        rename_i t1 ht1 t2 ht2
        refine ⟨_, _, ys ++ [.ref t2], rfl, sm_own (fr_of hfl (Same.refl _)) (by walk_at "sm"), upd_same, ?_, by rw [List.length_append, List.length_singleton]; omega⟩
        have e : ∀ (A : List (Int × Pt)) (L : List Int) (φ : Int → Option (Int × Pt)) (x : Int × Pt) (d : Int), φ d = some x → (A ++ (L ++ (some d).toList).filterMap φ).map partD = (A ++ L.filterMap φ).map partD ++ [partD x] := fun A L φ x d h => by
          simp [List.filterMap_append, h]
        rw [e _ _ _ (sumD rs d (d + 1 + (k : Int)), (d, d + 1 + (k : Int), ((i : Nat) : Int))) _ (by rw [ec]; rfl)]
        exact tds_put (at_new ht2 (at_new ht1 hys4)) (tds_snoc (tds_new ht2 (tds_new ht1 hT4)) (td_tup upd_same (.cons (.int _) (.cons (td_new ht2 (td_tup upd_same (.cons (.int _) (.cons (.int _) (.cons (.int _) .nil))))) .nil))))
      · have ec : coinO rs d (d + 1 + (k : Int)) = none := if_neg hh
        rw [if_neg hh]
        refine ite_ndt rfl ?_
        walk_at "ss"
        refine ⟨_, _, ys, rfl, sm4, hys4, ?_, by omega⟩
        have e : ∀ (A : List (Int × Pt)) (L : List Int) (φ : Int → Option (Int × Pt)) (d : Int), φ d = none → (A ++ (L ++ (some d).toList).filterMap φ).map partD = (A ++ L.filterMap φ).map partD := fun A L φ d h => by
          simp [List.filterMap_append, h]
        rw [e _ _ _ _ (by rw [ec]; rfl)]
        exact hT4
    · clear sm2 ys2 T2 st2 hyl
      rintro σ H3 ⟨v6, v7, ys, rfl, sm, hys, hT, hyl⟩
      refine ⟨_, _, _, _, ys, rfl, sm, hys, ?_, ?_⟩
      · rw [List.take_add_one, hrs]
        show Tds H3 ys ((partsAll d g 0 (bs.take i ++ [rs])).map partD)
        rw [partsAll_snoc, List.length_take, Nat.min_eq_left (by omega), Int.zero_add]
        rw [List.take_of_length_le (l := days (d + 1) (g + 1)) (by rw [days_len]; exact Nat.le_refl _)] at hT
        exact hT
      · omega
  · rintro σ H' ⟨v4, v5, v6, v7, ys, rfl, sm, hys, hT, hyl⟩
    walk_at "ss"
    rw [List.take_of_length_le (by omega)] at hT
    exact q fl ys H' sm hfl hys hT
def t_ways (K : PySem.W.Frag) : TS :=
  (tSeq (tAsg (tDisp [((tOp (rIxT K) (tVar 1) (tC (.int 0))), (tTup (tCons (tC (.int 0)) (tCons (tC .non) tNil))))]) (gName 2))
  (tSeq (tFor (iRng2 (tCons (tOp (rIxT K) (tVar 1) (tC (.int 0))) (tCons (tOp (rIxT K) (tVar 1) (tC (.int 1))) tNil))) (gName 3)
  (tIfS (tB (tDIn (tVar 3) (tVar 2)))
  (tFor (iList K (tCall (sp_parts_from K) [] E0 (tCons (tVar 0) (tCons (tVar 1) (tCons (tVar 3) tNil))))) (gTup K 2 (gCons (gName 4) (gCons (gName 5) gNil)))
  (tSeq (tAsg (tOp rAdd (tOp (rIxT K) (tDGet (tVar 2) (tVar 3)) (tC (.int 0))) (tVar 4)) (gName 6))
  (tIfS (tOr (tB (tDNotIn (tOp (rIxT K) (tVar 5) (tC (.int 1))) (tVar 2))) (tTest (tOp rLt (tVar 6) (tOp (rIxT K) (tDGet (tVar 2) (tOp (rIxT K) (tVar 5) (tC (.int 1)))) (tC (.int 0))))))
  (sDPut (tVar 2) (tOp (rIxT K) (tVar 5) (tC (.int 1))) (tTup (tCons (tVar 6) (tCons (tVar 5) tNil))))
  tNext)))
  tNext))
  (tRet (tVar 2))))
theorem pure_ways {K : PySem.W.Frag} {v y : V} {H : Hp} {Q : VK} {E : XK} (h : sp_ways K [v, y] H Q E) : t_ways K { nx := fun _ H' => Q .non H', rt := Q } [some v, some y, none, none, none, none, none] H := by
  obtain ⟨v, y, e, cf, cb, p, a, vs, bs, c, g, rfl, rfl, B, q⟩ := h
  cases e
  unfold t_ways
  obtain ⟨c0, c1, c2, c3⟩ := B.stay
  with_reducible refine g_seqA ?_
  with_reducible refine g_asg ?_
  intro dd hdd
  replace hdd : Fr H dd := hdd
  have s0 : Same H (upd H dd (.dK [])) := same_new hdd
  have st0 : SqT K (upd H dd (.dK [])) a [.int c, .int g] := Same.seqT s0 B.st
  show tPairs _ _ _ _
  unfold tPairs
  walk_at "ss"
  rename_i tp htp
  refine ⟨at_new htp upd_same, [(.inl c, .ref tp)], rfl, by simp, ?_⟩
  have stp : Same H (upd (upd (upd H dd (.dK [])) tp (.tup [.int 0, .non])) dd (.dK (mergeK [] [(.inl c, .ref tp)]))) := sm_own hdd (sm_new htp s0)
  have tdn : dd ≠ tp := fun z => by
    have := htp
    rw [← z] at this
    have e : upd H dd (.dK []) dd = some (.dK []) := upd_same
    rw [show upd H dd (.dK []) dd = none from this] at e
    cases e
  have dic := dic_one (c := c) (w := (0, none)) (H := upd (upd (upd H dd (.dK [])) tp (.tup [.int 0, .non])) dd (.dK (mergeK [] [(.inl c, .ref tp)]))) (v := .ref tp) upd_same (td_tup (at_ne (Ne.symm tdn) upd_same) (.cons (.int _) (.cons .non .nil)))
  generalize upd (upd (upd H dd (.dK [])) tp (.tup [.int 0, .non])) dd (.dK (mergeK [] [(.inl c, .ref tp)])) = G at stp dic
  have stG : SqT K G a [.int c, .int g] := Same.seqT stp B.st
  walk_at "ss"
  have rngd : ∀ {n : Int} {f : Wf}, WI bs c g n f → ∀ j, (wfD f j).isSome = true → c ≤ j ∧ j < c + (15 : Nat) := fun h j hj => by
    rw [wfD_is] at hj
    obtain ⟨w, hw⟩ := Option.isSome_iff_exists.mp hj
    have := h.rng j w hw
    omega
  refine for_range (lo := c) (n := (g - c).toNat) (fun i σ H' => ∃ v3 v4 v5 v6 f, σ = [some (.ref p), some (.ref a), some (.ref dd), v3, v4, v5, v6] ∧ Same H H' ∧ f = ((days c g).take i).foldl (dayW bs g) (way0 c) ∧ DicI H' dd (wfD f))
    ⟨_, _, _, _, way0 c, rfl, stp, rfl, dic⟩ ?_ ?_
  · clear stG dic stp htp tdn st0 s0
    clear G
    rintro i σ H' hi ⟨v3, v4, v5, v6, f, rfl, sm, hf, hD⟩
    have hW : WI bs c g (c + (i : Int)) f := hf ▸ fold_WI (by omega) i (by omega)
    have hdk : (days c g)[i]? = some (c + (i : Int)) := days_get (by omega)
    have nx : ∀ {σ' : L2.St} {H2 : Hp} {v3 v4 v5 v6 : Option V} {f' : Wf}, σ' = [some (.ref p), some (.ref a), some (.ref dd), v3, v4, v5, v6] → Same H H2 → f' = dayW bs g f (c + (i : Int)) → DicI H2 dd (wfD f') → ∃ v3 v4 v5 v6 f, σ' = [some (.ref p), some (.ref a), some (.ref dd), v3, v4, v5, v6] ∧ Same H H2 ∧ f = ((days c g).take (i + 1)).foldl (dayW bs g) (way0 c) ∧ DicI H2 dd (wfD f) := fun e1 e2 e3 e4 =>
      ⟨_, _, _, _, _, e1, e2, by rw [e3, List.take_add_one, hdk, List.foldl_append, ← hf]; rfl, e4⟩
    walk_at "ss"
    cases hfd : f (c + (i : Int)) with
    | none =>
      rw [wfD_is, hfd]
      refine ite_f rfl ?_
      walk_at "ss"
      exact nx rfl sm (by unfold dayW; rw [hfd]) hD
    | some w0 =>
      rw [wfD_is, hfd]
      refine ite_t rfl ?_
      walk_at "ss"
      refine g_parts_from (c := c) (g := g) (d := c + (i : Int)) cf cb (B.same sm) (by omega) (by omega) fun lq ys H2 s2 f2 hl2 hT => ?_
      walk_at "ss"
      have hyl := tds_len hT
      rw [List.length_map] at hyl
      have sm2 : Same H H2 := sm.trans s2
      have hD2 := dc_same s2 hD
      obtain ⟨L, hL⟩ : ∃ L, L = partsAll (c + (i : Int)) g 0 bs := ⟨_, rfl⟩
      rw [← hL] at hT hyl
      have fl2 : Fr H lq := fr_of f2 sm
      have lqd : lq ≠ dd := fun z => by
        obtain ⟨kvs, ks, h1, -⟩ := hD2
        rw [← z, hl2] at h1
        cases h1
      refine for_list (K := K) (a := lq) (xs := ys) (fun j σ H' => ∃ v4 v5 v6 f', σ = [some (.ref p), some (.ref a), some (.ref dd), some (.int (c + (i : Int))), v4, v5, v6] ∧ Same H H' ∧ H' lq = some (.lst ys) ∧ Tds H' ys (L.map partD) ∧ f' = (L.take j).foldl (relax w0.1) f ∧ DicI H' dd (wfD f'))
        ⟨_, _, _, f, rfl, sm2, hl2, hT, rfl, hD2⟩ (fun j σ H' _ h => by obtain ⟨_, _, _, _, _, _, h, _⟩ := h; exact SqL.of h) ?_ ?_
      · clear hD2 sm2 hT s2 f2 hD sm hl2
        clear H2
        clear H'
        rintro j x σ H' hj ⟨v4, v5, v6, f', rfl, sm, hl, hT, hf', hD⟩
        obtain ⟨d, hd, tx⟩ := tds_get hT hj
        rw [List.getElem?_map] at hd
        obtain ⟨y, hy, rfl⟩ : ∃ y, L[j]? = some y ∧ d = partD y := by
          cases e : L[j]? with
          | none => rw [e] at hd; cases hd
          | some y => rw [e] at hd; exact ⟨y, rfl, (Option.some.inj hd).symm⟩
        have ym := mem_partsAll.mp (hL ▸ List.mem_of_getElem? hy)
        obtain ⟨t, u, rfl, ht, hu⟩ := td_part tx
        have mt : ∀ x ∈ L.take j, c + (i : Int) < x.2.2.1 ∧ x.2.2.1 ≤ g := fun x hx => by
          have := mem_partsAll.mp (hL ▸ List.mem_of_mem_take hx)
          exact ⟨this.2.1, this.2.2.1⟩
        have fr := fold_relax w0.1 (L.take j) f
        rw [← hf'] at fr
        have hd' : f' (c + (i : Int)) = some w0 := by
          rcases fr.1 (c + (i : Int)) with h | ⟨x, hx, h, -⟩
          · rw [h]; exact hfd
          · have := mt x hx; omega
        have rg : ∀ k, (wfD f' k).isSome = true → c ≤ k ∧ k < c + (15 : Nat) := fun k hk => by
          rcases fr.1 k with h | ⟨x, hx, h, -⟩
          · rw [wfD_is, h, ← wfD_is] at hk
            exact rngd hW k hk
          · have := mt x hx
            omega
        have nx' : ∀ {σ' : L2.St} {H2 : Hp} {v4 v5 v6 : Option V} {f2 : Wf}, σ' = [some (.ref p), some (.ref a), some (.ref dd), some (.int (c + (i : Int))), v4, v5, v6] → Same H H2 → H2 lq = some (.lst ys) → Tds H2 ys (L.map partD) → f2 = relax w0.1 f' y → DicI H2 dd (wfD f2) →
            ∃ v4 v5 v6 f', σ' = [some (.ref p), some (.ref a), some (.ref dd), some (.int (c + (i : Int))), v4, v5, v6] ∧ Same H H2 ∧ H2 lq = some (.lst ys) ∧ Tds H2 ys (L.map partD) ∧ f' = (L.take (j + 1)).foldl (relax w0.1) f ∧ DicI H2 dd (wfD f') := fun e1 e2 e3 e4 e5 e6 =>
          ⟨_, _, _, _, e1, e2, e3, e4, by rw [e5, List.take_add_one, hy, List.foldl_append, ← hf']; rfl, e6⟩
        walk_at "ss"
        refine di_get hD (wfD_some hd') fun v0 hv0 => ?_
        obtain ⟨t0, u0, rfl, ht0, -⟩ := td_we hv0
        walk_at "ss"
        cases hfe : f' y.2.2.1 with
        | none =>
          rw [wfD_is, hfe]
          refine ite_t rfl ?_
          refine iteT ?_
          walk_at "ss"
          rename_i tq htq
          refine di_put (d := weD (w0.1 + y.1, some y.2)) (dc_new htq hD) (td_tup upd_same (.cons (.int _) (.cons (td_new htq (td_tup hu (.cons (.int _) (.cons (.int _) (.cons (.int _) .nil))))) .nil))) rg (by omega) fun H5 k5 tk5 hD5 => ?_
          exact nx' rfl (sm_put hdd (sm_new htq sm) k5) (k5 _ _ (at_new htq hl) (by simp [lqd])) (tds_tk tk5 (tds_new htq hT)) (by unfold relax; rw [if_pos (.inl (by rw [hfe]; rfl))]) (by rw [wfD_set]; exact hD5)
        | some w1 =>
          rw [wfD_is, hfe]
          refine ite_f rfl ?_
          walk_at "ss"
          refine di_get hD (wfD_some hfe) fun v1 hv1 => ?_
          obtain ⟨t1, u1, rfl, ht1, -⟩ := td_we hv1
          walk_at "ss"
          refine ite_d (fun z => ?_) fun z => ?_
          · walk_at "ss"
            rename_i tq htq
            refine di_put (d := weD (w0.1 + y.1, some y.2)) (dc_new htq hD) (td_tup upd_same (.cons (.int _) (.cons (td_new htq (td_tup hu (.cons (.int _) (.cons (.int _) (.cons (.int _) .nil))))) .nil))) rg (by omega) fun H5 k5 tk5 hD5 => ?_
            exact nx' rfl (sm_put hdd (sm_new htq sm) k5) (k5 _ _ (at_new htq hl) (by simp [lqd])) (tds_tk tk5 (tds_new htq hT)) (by unfold relax; rw [if_pos (.inr (by rw [hfe]; exact z))]) (by rw [wfD_set]; exact hD5)
          · walk_at "ss"
            exact nx' rfl sm hl hT (by unfold relax; rw [if_neg (by rw [hfe]; simp; exact Int.not_lt.mp z)]) hD
      · rintro σ H3 ⟨v4, v5, v6, f', rfl, sm3, hl3, hT3, hf', hD3⟩
        walk_at "ss"
        rw [List.take_of_length_le (by omega)] at hf'
        exact nx rfl sm3 (by unfold dayW; rw [hfd, hf', hL]) hD3
  · rintro σ H' ⟨v3, v4, v5, v6, f, rfl, sm, hf, hD⟩
    walk_at "ss"
    rw [List.take_of_length_le (by rw [days_len]; exact Nat.le_refl _)] at hf
    subst hf
    exact q dd H' sm hdd hD
def t_cut_by (K : PySem.W.Frag) : TS :=
  (tSeq (tAsg (tLst tNil) (gName 2))
  (tSeq (tAsg (tOp (rIxT K) (tDGet (tVar 0) (tVar 1)) (tC (.int 1))) (gName 3))
  (tSeq (tWhile (tTest (tOp rNotN (tVar 3) (tC .non)))
  (tSeq (tDrop (tBM K "list" rInsert (tVar 2) (tCons (tC (.int 0)) (tCons (tVar 3) tNil))))
  (tAsg (tOp (rIxT K) (tDGet (tVar 0) (tOp (rIxT K) (tVar 3) (tC (.int 0)))) (tC (.int 1))) (gName 3))))
  (tRet (tVar 2)))))
theorem pure_cut_by {K : PySem.W.Frag} {v y : V} {H : Hp} {Q : VK} {E : XK} (h : sp_cut_by K [v, y] H Q E) : t_cut_by K { nx := fun _ H' => Q .non H', rt := Q } [some v, some y, none, none] H := by
  obtain ⟨v, y, e, dd, bs, c, g, n, d, f, w, rfl, rfl, hD, hW, hg, hd, q⟩ := h
  cases e
  unfold t_cut_by
  have rd := hW.rng d w hd
  walk_at "ss"
  rename_i fl hfl
  have s0 : Same H (upd H fl (.lst [])) := same_new hfl
  refine di_get (dc_same s0 hD) (wfD_some hd) fun v0 hv0 => ?_
  obtain ⟨t0, u0, rfl, ht0, hu0⟩ := td_we hv0
  walk_at "ss"
  refine while_m (fun m σ H' => ∃ (e : Int) (w : We) (x : V) (ys : List V) (L : List Pt) (M : Nat), σ = [some (.ref dd), some (.int d), some (.ref fl), some x] ∧ Same H H' ∧ H' fl = some (.lst ys) ∧ Tds H' ys (L.map ptD) ∧ (ys.length : Int) + (e - c) ≤ d - c ∧ f e = some w ∧ Td H' x (poD w.2) ∧ e - c < M ∧ cutF f (d - c + 1).toNat d = cutF f M e ++ L ∧ m = (e - c).toNat)
    ⟨d, w, u0, [], [], (d - c + 1).toNat, rfl, s0, upd_same, .nil, by simp, hd, hu0, by omega, by simp, rfl⟩ ?_ ?_
  · rintro m σ H' ⟨e, w, x, ys, L, M, rfl, sm, hys, hT, hl, he, hx, hM, hc, rfl⟩
    have re := hW.rng e w he
    walk_at "ss"
    obtain ⟨t, po⟩ := w
    cases po with
    | none =>
      cases hx
      refine ite_ndt rfl ?_
      walk_at "ss"
      have : cutF f M e = [] := by
        cases M with
        | zero => rfl
        | succ M => rw [cutF, he]
      rw [this, List.nil_append] at hc
      exact q fl ys H' sm hfl hys (by rw [hc]; exact hT)
    | some p =>
      obtain ⟨t1, rfl, ht1⟩ := td_pt hx
      obtain ⟨a1, a2, a3, a4, u, k, rs, z, b1, b2, b3, b4, b5⟩ := hW.back e t p he
      refine ite_ndf (by simp) ?_
      have hD1 := dc_same sm hD
      have ne1 : t1 ≠ fl := fun z => by rw [z, hys] at ht1; cases ht1
      walk_at "ss"
      refine di_get (by walk_at "dc") (wfD_some b1) fun v2 hv2 => ?_
      obtain ⟨t2, u2, rfl, ht2, hu2⟩ := td_we hv2
      walk_at "ss"
      have hcons : cutF f M e = cutF f (M - 1) p.1 ++ [p] := by
        cases M with
        | zero => simp at hM; omega
        | succ M => rw [cutF, he]; rfl
      refine ⟨(p.1 - c).toNat, by omega, p.1, u, u2, .ref t1 :: ys, p :: L, M - 1, rfl, sm_own hfl sm, upd_same, ?_, ?_, b1, hu2, by omega, by rw [hc, hcons, List.append_assoc]; rfl, rfl⟩
      · exact tds_put hys (.cons hx hT)
      · rw [List.length_cons]
        push_cast
        omega
  · intro σ H Q Q' h q
    obtain ⟨x, hx, a, b⟩ := q
    exact ⟨x, hx, a, by obtain ⟨k, e1, e2⟩ := b; exact ⟨k, e1, h _ _ e2⟩⟩
def t_paper_by (K : PySem.W.Frag) : TS :=
  (tSeq (tAsg (tCB (rMax K) (tCons (tLockE (tLc (iVals (tVar 0)) (gTup K 2 (gCons (gName 6) (gCons (gName 7) gNil))) tYes (tVar 6) [6, 7])) tNil)) (gName 2))
  (tSeq (tAsg (tLc (iRng2 (tCons (tOp (rIxT K) (tVar 1) (tC (.int 0))) (tCons (tOp rAdd (tOp (rIxT K) (tVar 1) (tC (.int 1))) (tC (.int 1))) tNil))) (gName 4) tYes (tIf (tB (tDIn (tVar 4) (tVar 0))) (tOp (rIxT K) (tDGet (tVar 0) (tVar 4)) (tC (.int 0))) (tVar 2)) [4]) (gName 3))
  (tRet (tLc (iRng1 (tCons (tOp rSub (tCB (rLen K) (tCons (tVar 3) tNil)) (tC (.int 1))) tNil)) (gName 5) tYes (tOp rSub (tOp (rIxL K) (tVar 3) (tOp rAdd (tVar 5) (tC (.int 1)))) (tOp (rIxL K) (tVar 3) (tVar 5))) [5]))))
theorem pure_paper_by {K : PySem.W.Frag} {v y : V} {H : Hp} {Q : VK} {E : XK} (h : sp_paper_by K [v, y] H Q E) : t_paper_by K { nx := fun _ H' => Q .non H', rt := Q } [some v, some y, none, none, none, none, none, none] H := by
  obtain ⟨v, y, e, dd, a, bs, c, g, n, f, rfl, rfl, hS, ⟨c0, c1, c2, c3⟩, hD, hW, q⟩ := h
  cases e
  unfold t_paper_by
  with_reducible refine g_seqA ?_
  with_reducible refine g_asg ?_
  with_reducible refine g_cb ?_
  with_reducible refine g_cons ?_
  obtain ⟨kvs, ks, h1, h2, h3, h4⟩ := hD
  have hD : DicI H dd (wfD f) := ⟨kvs, ks, h1, h2, h3, h4⟩
  have rng : ∀ j, (wfD f j).isSome = true → c ≤ j ∧ j < c + (15 : Nat) := fun j hj => by
    rw [wfD_is] at hj
    obtain ⟨w, hw⟩ := Option.isSome_iff_exists.mp hj
    have := hW.rng j w hw
    omega
  have hl := dic_len h2 h3 h4 rng
  refine ⟨dd, .dK kvs, h1, trivial, fun od => ?_⟩
  have tk1 : Tk H (upd H dd (.frz od (.dK kvs))) := fun b xs e => at_ne (fun z => by rw [z, h1] at e; cases e) e
  have a1 : (upd H dd (.frz od (.dK kvs))) dd = some (.frz od (.dK kvs)) := upd_same
  have val : ∀ (i : Nat) (k : Key) (x : V), kvs[i]? = some (k, x) → ∃ (j : Int) (w : We), ks[i]? = some j ∧ f j = some w ∧ Td H x (weD w) := fun i k x hx => by
    have hk : (kvs.map (·.1))[i]? = some k := by rw [List.getElem?_map, hx]; rfl
    rw [h2, List.getElem?_map] at hk
    cases hj : ks[i]? with
    | none => rw [hj] at hk; cases hk
    | some j =>
      rw [hj] at hk
      obtain rfl : Sum.inl j = k := Option.some.inj hk
      have nd : (kvs.map (·.1)).Nodup := by
        rw [h2]
        exact List.Pairwise.map _ (fun a b hab z => hab (Sum.inl.inj z)) h3
      have hv := val_nodup nd _ (List.mem_of_getElem? hx)
      have h5 := h4 j
      rw [hv] at h5
      unfold wfD at h5
      cases hf : f j with
      | none => rw [hf] at h5; exact h5.elim
      | some w => rw [hf] at h5; exact ⟨j, w, rfl, hf, h5⟩
  generalize hG : upd H dd (.frz od (.dK kvs)) = G at tk1 a1
  walk_at "ss"
  refine g_iVals ?_
  walk_at "ss"
  refine ⟨dd, od, kvs, rfl, a1, ?_⟩
  refine lc_w (f := fun i => (ks[i]?).bind fun j => some (V.int (costF f j))) (walk_vals (d := dd) (o := od) (kvs := kvs)) (by omega) (fun H' s => s _ _ a1) ?_ ?_
  · rintro D i x H2 H3 N hDf hi s2 ⟨rfl, k, hx⟩ hy hn
    obtain ⟨j, w, hj, hf, hv⟩ := val i k x hx
    obtain ⟨t, u, rfl, ht, -⟩ := td_we (hv.tk (tk1.trans (Same.tk s2)))
    walk_at "ss"
    exact hy _ _ (by rw [hj, Option.bind_some]; unfold costF; rw [hf]; rfl) (Same.refl _)
  intro D H2 hDf s2 h2'
  rw [show kvs.length = ks.length from hl.2, range_flt ks (fun j => some (V.int (costF f j))), fm_map] at h2'
  have dne : D ≠ dd := fun z => by rw [z] at hDf; rw [hDf] at a1; cases a1
  refine ⟨s2 _ _ a1, ?_⟩
  have sm : Same H (upd H2 dd (.dK kvs)) := unlock_same h1 (hG ▸ s2)
  have h2'' : upd H2 dd (.dK kvs) D = some (.lst ((ks.map (costF f)).map V.int)) := by
    rw [List.map_map]
    exact at_ne dne h2'
  have cin : c ∈ ks := (dic_keys h2 h4 c).mpr (by rw [wfD_is, hW.start]; rfl)
  have hDD : DicI (upd H2 dd (.dK kvs)) dd (wfD f) := dc_same sm hD
  have SS : SqT K (upd H2 dd (.dK kvs)) a [.int c, .int g] := Same.seqT sm hS
  generalize upd H2 dd (.dK kvs) = H3 at sm h2'' hDD SS
  walk_at "ss"
  refine g_max (SqL.of h2'') (by rw [List.length_map]; exact List.length_pos_of_mem cin) fun m hm hle => ?_
  have hmost : m = mostF f c g := by
    refine most_is hW ?_ fun d w hd => ?_
    · obtain ⟨j, hj, rfl⟩ := List.mem_map.mp hm
      have := (dic_keys h2 h4 j).mp hj
      rw [wfD_is] at this
      obtain ⟨w, hw⟩ := Option.isSome_iff_exists.mp this
      exact ⟨j, w, hw, by unfold costF; rw [hw]; rfl⟩
    · have hd' : d ∈ ks := (dic_keys h2 h4 d).mpr (by rw [wfD_is, hd]; rfl)
      have := hle (costF f d) (List.mem_map.mpr ⟨d, hd', rfl⟩)
      unfold costF at this
      rw [hd] at this
      exact this
  subst hmost
  walk_at "ss"
  have dl := days_len c (g + 1)
  refine lc_w (f := fun i => ((days c (g + 1))[i]?).bind fun d => some (V.int (heightF f c g d))) walk_range (by omega) (fun _ _ => trivial) ?_ ?_
  · rintro D i x H4 H5 N hDf hi s4 ⟨rfl, rfl⟩ hy hn
    have hdk : (days c (g + 1))[i]? = some (c + (i : Int)) := days_get (by omega)
    have hD4 := dc_same s4 hDD
    walk_at "ss"
    cases hf : f (c + (i : Int)) with
    | none =>
      rw [wfD_is, hf]
      refine ite_f rfl ?_
      walk_at "ss"
      exact hy _ _ (by rw [hdk, Option.bind_some]; unfold heightF; rw [hf]) (Same.refl _)
    | some w =>
      rw [wfD_is, hf]
      refine ite_t rfl ?_
      walk_at "ss"
      refine di_get hD4 (wfD_some hf) fun v2 hv2 => ?_
      obtain ⟨t2, u2, rfl, ht2, -⟩ := td_we hv2
      walk_at "ss"
      exact hy _ _ (by rw [hdk, Option.bind_some]; unfold heightF; rw [hf]) (Same.refl _)
  intro D4 H4 hD4f s4 h4'
  rw [← dl, range_flt (days c (g + 1)) (fun d => some (V.int (heightF f c g d))), fm_map] at h4'
  rw [show (days c (g + 1)).map (fun d => V.int (heightF f c g d)) = ((days c (g + 1)).map (heightF f c g)).map V.int by rw [List.map_map]; rfl] at h4'
  have hlen : (((days c (g + 1)).map (heightF f c g)).map V.int).length = (g + 1 - c).toNat := by rw [List.length_map, List.length_map, dl]
  walk_at "ss"
  have dl2 := days_len c g
  refine lc_w (f := fun i => ((days c g)[i]?).bind fun d => some (V.int (heightF f c g (d + 1) - heightF f c g d))) walk_range (by rw [hlen]; omega) (fun _ _ => trivial) ?_ ?_
  · rintro D i x H5 H6 N hDf hi s5 ⟨rfl, rfl⟩ hy hn
    rw [hlen] at hi
    have hdk : (days c g)[i]? = some (c + (i : Int)) := days_get (by omega)
    have h5 := s5 _ _ h4'
    walk_at "ss"
    refine g_ixL (SqL.of h5) (days_atF _ (by omega) (by omega)) ?_
    walk_at "ss"
    refine g_ixL (SqL.of h5) (days_atF _ (by omega) (by omega)) ?_
    walk_at "ss"
    exact hy _ _ (by rw [hdk, Option.bind_some, Int.zero_add, ← Int.add_assoc]) (Same.refl _)
  intro D5 H5 hD5f s5 h5
  rw [hlen, show (((g + 1 - c).toNat : Int) - 1).toNat = (days c g).length by omega, range_flt (days c g) (fun d => some (V.int (heightF f c g (d + 1) - heightF f c g d))), fm_map] at h5
  refine q D5 H5 ((sm.trans s4).trans s5) (fr_of hD5f (sm.trans s4)) ?_
  unfold paperF
  rw [List.map_map]
  exact h5
def t_best (K : PySem.W.Frag) : TS :=
  (tSeq (tAsg (tCall (sp_ways K) [] E0 (tCons (tVar 0) (tCons (tVar 1) tNil))) (gName 2))
  (tSeq (tIfS (tB (tDNotIn (tOp (rIxT K) (tVar 1) (tC (.int 1))) (tVar 2)))
  (tRet (tTup (tCons (tC (.str "off")) (tCons (tCB Y.rSortDI (tCons (tVar 2) tNil)) tNil))))
  tNext)
  (tRet (tTup (tCons (tC (.str "had")) (tCons (tOp (rIxT K) (tDGet (tVar 2) (tOp (rIxT K) (tVar 1) (tC (.int 1)))) (tC (.int 0))) (tCons (tCall (sp_cut_by K) [] E0 (tCons (tVar 2) (tCons (tOp (rIxT K) (tVar 1) (tC (.int 1))) tNil))) (tCons (tCall (sp_paper_by K) [] E0 (tCons (tVar 2) (tCons (tVar 1) tNil))) tNil))))))))
theorem pure_best {K : PySem.W.Frag} {v y : V} {H : Hp} {Q : VK} {E : XK} (h : sp_best K [v, y] H Q E) : t_best K { nx := fun _ H' => Q .non H', rt := Q } [some v, some y, none] H := by
  obtain ⟨v, y, e, cf, cb, p, a, vs, bs, c, g, rfl, rfl, B, q1, q2⟩ := h
  cases e
  unfold t_best
  obtain ⟨c0, c1, c2, c3⟩ := B.stay
  have hW := ways_WI bs (show c ≤ g by omega)
  walk_at "ss"
  refine g_ways cf cb B fun dd H1 s1 f1 hD => ?_
  have S1 := Same.seqT s1 B.st
  walk_at "ss"
  cases hg : waysF bs c g g with
  | none =>
    rw [wfD_is, hg]
    refine ite_t rfl ?_
    walk_at "ss"
    refine g_sortDI (m := shutL bs c g) hD ?_ (fun x => ?_) ?_ fun l hl => ?_
    · unfold shutL shutF
      refine List.Pairwise.filter _ ?_
      unfold days
      rw [List.pairwise_map]
      exact List.pairwise_lt_range.imp fun h => by omega
    · unfold shutL shutF
      rw [wfD_is, List.mem_filter, mem_days]
      constructor
      · intro h
        obtain ⟨w, hw⟩ := Option.isSome_iff_exists.mp h
        have := hW.rng x w hw
        exact ⟨by omega, h⟩
      · exact fun h => h.2
    · unfold shutL shutF
      refine Nat.lt_of_le_of_lt (List.length_filter_le _ _) ?_
      rw [days_len]
      omega
    walk_at "ss"
    rename_i tp htp
    exact q1 (by unfold offB; rw [hg]; rfl) tp l _ (sm_new htp (sm_new hl s1)) (fr_of htp (sm_new hl s1)) (fr_of hl s1) upd_same (at_new htp upd_same)
  | some w =>
    rw [wfD_is, hg]
    refine ite_f rfl ?_
    walk_at "ss"
    refine di_get hD (wfD_some hg) fun v2 hv2 => ?_
    obtain ⟨t2, u2, rfl, ht2, -⟩ := td_we hv2
    walk_at "ss"
    refine g_cut_by hD hW (by omega) hg fun l ys H2 s2 f2 hl2 hT2 => ?_
    have S2 := Same.seqT s2 S1
    have hD2 := dc_same s2 hD
    walk_at "ss"
    refine g_paper_by S2 ⟨c0, c1, c2, c3⟩ hD2 hW fun r H3 s3 f3 hl3 => ?_
    walk_at "ss"
    rename_i tp htp
    have e1 : coinsL bs c g = w.1 := by unfold coinsL costF; rw [hg]; rfl
    have hne : l ≠ r := fun z => by rw [← z] at f3; rw [f3] at hl2; cases hl2
    exact q2 (by unfold offB; rw [hg]; rfl) tp l r ys _ (sm_new htp ((s1.trans s2).trans s3)) (fr_of htp ((s1.trans s2).trans s3)) (fr_of f2 s1) (fr_of f3 (s1.trans s2)) hne (by rw [e1]; exact upd_same) (at_new htp (s3 _ _ hl2)) (tds_new htp (tds_same s3 hT2)) (at_new htp hl3)
/-! YXa: an inn in the heap, its stays. -/
open PySem PySem.Spec PyProof.Rows L2
/-- a stay that is taken -/
structure Stn where
  no : Int
  c : Int
  g : Int
  coins : Int
  cut : List Pt
/-- an inn's state -/
structure Ist where
  sh : Shf
  tk : List Stn
  co : Int
abbrev Kvs := List (Key × V)
def TkAt (H : Hp) (W : List Addr) (kv : Key × V) (e : Stn) : Prop := kv.1 = .inl e.no ∧ ∃ t s q ys, kv.2 = .ref t ∧ H t = some (.tup [.ref s, .int e.coins, .ref q]) ∧ H s = some (.tup [.int e.c, .int e.g]) ∧ H q = some (.lst ys) ∧ Tds H ys (e.cut.map ptD) ∧ q ∈ W
abbrev TksAt (H : Hp) (W : List Addr) (kvs : Kvs) (tk : List Stn) : Prop := Paired (TkAt H W) kvs tk
theorem TkAt.mut {H H' : Hp} {L W : List Addr} {kv : Key × V} {e : Stn} (k : Kp L H H') (m : Muts H L) (n : ∀ p ∈ W, p ∉ L) (h : TkAt H W kv e) : TkAt H' W kv e := by
  obtain ⟨e1, t, s, q, ys, e2, h1, h2, h3, h4, h5⟩ := h
  have tk := tk_mut k m
  exact ⟨e1, t, s, q, ys, e2, tk _ _ h1, tk _ _ h2, k _ _ h3 (n q h5), tds_tk tk h4, h5⟩
theorem TkAt.wide {H : Hp} {W W' : List Addr} {kv : Key × V} {e : Stn} (w : ∀ p ∈ W, p ∈ W') (h : TkAt H W kv e) : TkAt H W' kv e := by
  obtain ⟨e1, t, s, q, ys, e2, h1, h2, h3, h4, h5⟩ := h
  exact ⟨e1, t, s, q, ys, e2, h1, h2, h3, h4, w q h5⟩
theorem tks_mut {H H' : Hp} {L W : List Addr} {kvs : Kvs} {tk : List Stn} (k : Kp L H H') (m : Muts H L) (n : ∀ p ∈ W, p ∉ L) (h : TksAt H W kvs tk) : TksAt H' W kvs tk := Paired.mapP h fun _ _ z => z.mut k m n
theorem tks_wide {H : Hp} {W W' : List Addr} {kvs : Kvs} {tk : List Stn} (w : ∀ p ∈ W, p ∈ W') (h : TksAt H W kvs tk) : TksAt H W' kvs tk := Paired.mapP h fun _ _ z => z.wide w
theorem tks_keys {H : Hp} {W : List Addr} : ∀ {kvs : Kvs} {tk : List Stn}, TksAt H W kvs tk → kvs.map (·.1) = (tk.map (·.no)).map Sum.inl
  | _, _, .nil => rfl
  | _, _, .cons h t => by
    rw [List.map_cons, List.map_cons, List.map_cons, tks_keys t, h.1]
/-- a state as it may be -/
structure IstOk (st : Ist) : Prop where
  sh : ShOk st.sh
  up : (st.tk.map (·.no)).Pairwise (· < ·)
  lt : ∀ e ∈ st.tk, 0 ≤ e.no ∧ e.no < st.co
  stay : ∀ e ∈ st.tk, StayB e.c e.g
  co0 : 0 ≤ st.co
  coN : st.co ≤ 60
theorem up_len : ∀ (l : List Int) (a n : Int), l.Pairwise (· < ·) → (∀ x ∈ l, a ≤ x ∧ x < n) → a ≤ n → (l.length : Int) ≤ n - a
  | [], a, n, _, _, h => by simp; omega
  | x :: l, a, n, p, h, _ => by
    rw [List.pairwise_cons] at p
    have h1 := h x List.mem_cons_self
    have := up_len l (x + 1) n p.2 (fun y hy => ⟨by have := p.1 y hy; omega, (h y (List.mem_cons_of_mem _ hy)).2⟩) (by omega)
    rw [List.length_cons]
    push_cast
    omega
theorem IstOk.len {st : Ist} (o : IstOk st) : (st.tk.length : Int) ≤ st.co ∧ st.tk.length < 64 := by
  have := up_len (st.tk.map (·.no)) 0 st.co o.up (fun x hx => by
    obtain ⟨e, he, rfl⟩ := List.mem_map.mp hx
    exact o.lt e he) o.co0
  rw [List.length_map] at this
  have := o.coN
  omega
/-! ### the inn -/
def PsAt (K : PySem.W.Frag) (H : Hp) (W : List Addr) (x : Addr × Addr × Addr) (st : Ist) : Prop := H x.1 = some (.tup [.ref x.2.1, .ref x.2.2, .int st.co]) ∧ (∃ kvs, H x.2.1 = some (.dK kvs) ∧ ShAt K H W kvs st.sh) ∧ ∃ kvs, H x.2.2 = some (.dK kvs) ∧ TksAt H W kvs st.tk
abbrev inO (K : PySem.W.Frag) (dx s t p : Addr) (m co : Int) : HO := .ins (He.ga K "Inn") dx [("many", .int m), ("shelf", .ref s), ("taken", .ref t), ("coming", .int co), ("past", .ref p)]
structure InIn (K : PySem.W.Frag) (H : Hp) (W : List Addr) (a dx s t p : Addr) (ps : List (Addr × Addr × Addr)) (m : Int) (st : Ist) (pa : List Ist) : Prop where
  obj : H a = some (inO K dx s t p m st.co)
  shelf : ∃ kvs, H s = some (.dK kvs) ∧ ShAt K H W kvs st.sh
  taken : ∃ kvs, H t = some (.dK kvs) ∧ TksAt H W kvs st.tk
  past : H p = some (.lst (ps.map fun x => .ref x.1))
  pas : Paired (PsAt K H W) ps pa
  nd : (innF a s t p ps).Nodup
  off : ∀ x ∈ W, x ∉ innF a s t p ps
  known : ∀ x ∈ W, ∃ o, H x = some o
  ok : IstOk st
  oks : ∀ u ∈ pa, IstOk u
def IsAt (K : PySem.W.Frag) (H : Hp) (M W : List Addr) (v : V) (m : Int) (st : Ist) (pa : List Ist) : Prop := ∃ a dx s t p ps, v = .ref a ∧ M = innF a s t p ps ∧ InIn K H W a dx s t p ps m st pa
section
variable {K : PySem.W.Frag} {H H' : Hp} {L M W W' : List Addr} {v : V} {a dx s t p q s' t' : Addr} {ps : List (Addr × Addr × Addr)} {m : Int} {st st' : Ist} {pa : List Ist} {kvs kvs' : Kvs}
theorem ps_mem : ∀ {ps : List (Addr × Addr × Addr)} {pa : List Ist}, Paired (PsAt K H W) ps pa → ∀ y ∈ ps.flatMap (fun x => [x.2.1, x.2.2]), ∃ kvs, H y = some (.dK kvs)
  | _, _, .nil, y, hy => by simp at hy
  | x :: ps, u :: pa, .cons ⟨_, ⟨kvs, h1, _⟩, ⟨kvs', h2, _⟩⟩ t, y, hy => by
    rw [List.flatMap_cons] at hy
    rcases List.mem_append.mp hy with hy | hy
    · simp at hy
      rcases hy with rfl | rfl
      · exact ⟨_, h1⟩
      · exact ⟨_, h2⟩
    · exact ps_mem t y hy
theorem InIn.mem (I : InIn K H W a dx s t p ps m st pa) : ∀ x ∈ innF a s t p ps, ∃ o, H x = some o ∧ MutO o := fun x hx => by
  rcases List.mem_cons.mp hx with rfl | hx
  · exact ⟨_, I.obj, .inr (.inr ⟨_, _, _, _, rfl⟩)⟩
  rcases List.mem_cons.mp hx with rfl | hx
  · obtain ⟨kvs, h, -⟩ := I.shelf
    exact ⟨_, h, .inr (.inl ⟨_, rfl⟩)⟩
  rcases List.mem_cons.mp hx with rfl | hx
  · obtain ⟨kvs, h, -⟩ := I.taken
    exact ⟨_, h, .inr (.inl ⟨_, rfl⟩)⟩
  rcases List.mem_cons.mp hx with rfl | hx
  · exact ⟨_, I.past, .inl ⟨_, rfl⟩⟩
  · obtain ⟨kvs, h⟩ := ps_mem I.pas x hx
    exact ⟨_, h, .inr (.inl ⟨_, rfl⟩)⟩
theorem InIn.muts (I : InIn K H W a dx s t p ps m st pa) (hl : ∀ x ∈ L, x ∈ innF a s t p ps) : Muts H L := fun x hx o e => by
  obtain ⟨o', e', h⟩ := I.mem x (hl x hx)
  rw [e] at e'
  cases e'
  exact h
theorem IsAt.muts (I : IsAt K H M W v m st pa) : Muts H M := by
  obtain ⟨a, dx, s, t, p, ps, rfl, rfl, I⟩ := I
  exact I.muts fun x hx => hx
theorem IsAt.known (I : IsAt K H M W v m st pa) : ∀ x ∈ M ++ W, ∃ o, H x = some o := by
  obtain ⟨a, dx, s, t, p, ps, rfl, rfl, I⟩ := I
  intro x hx
  rcases List.mem_append.mp hx with hx | hx
  · obtain ⟨o, e, -⟩ := I.mem x hx
    exact ⟨o, e⟩
  · exact I.known x hx
theorem IsAt.ok (I : IsAt K H M W v m st pa) : IstOk st := let ⟨_, _, _, _, _, _, _, _, I⟩ := I; I.ok
theorem IsAt.oks (I : IsAt K H M W v m st pa) : ∀ u ∈ pa, IstOk u := let ⟨_, _, _, _, _, _, _, _, I⟩ := I; I.oks
theorem ps_mut (k : Kp L H H') (mu : Muts H L) (n : ∀ x ∈ W, x ∉ L) : ∀ {ps : List (Addr × Addr × Addr)} {pa : List Ist}, (∀ x ∈ ps.flatMap (fun x => [x.2.1, x.2.2]), x ∉ L) → Paired (PsAt K H W) ps pa → Paired (PsAt K H' W) ps pa
  | _, _, _, .nil => .nil
  | x :: ps, u :: pa, n3, .cons ⟨e1, ⟨kv, e2, e3⟩, ⟨kt, e4, e5⟩⟩ t => by
    rw [List.flatMap_cons] at n3
    exact .cons ⟨tk_mut k mu _ _ e1, ⟨kv, k _ _ e2 (n3 _ (by simp)), e3.mut k mu n⟩, ⟨kt, k _ _ e4 (n3 _ (by simp)), tks_mut k mu n e5⟩⟩ (ps_mut k mu n (fun x hx => n3 x (List.mem_append_right _ hx)) t)
theorem ps_wide (w : ∀ x ∈ W, x ∈ W') {ps : List (Addr × Addr × Addr)} {pa : List Ist} (h : Paired (PsAt K H W) ps pa) : Paired (PsAt K H W') ps pa :=
  Paired.mapP h fun _ _ ⟨e1, ⟨kv, e2, e3⟩, ⟨kt, e4, e5⟩⟩ => ⟨e1, ⟨kv, e2, e3.wide w⟩, ⟨kt, e4, tks_wide w e5⟩⟩
/-- an inn stays where none of its own is changed -/
theorem InIn.keep (I : InIn K H W a dx s t p ps m st pa) (k : Kp L H H') (mu : Muts H L) (n : ∀ x ∈ innF a s t p ps ++ W, x ∉ L) : InIn K H' W a dx s t p ps m st pa := by
  have n1 : ∀ x ∈ innF a s t p ps, x ∉ L := fun x hx => n x (List.mem_append_left _ hx)
  have n2 : ∀ x ∈ W, x ∉ L := fun x hx => n x (List.mem_append_right _ hx)
  obtain ⟨kvs, h1, h2⟩ := I.shelf
  obtain ⟨kt, h3, h4⟩ := I.taken
  refine ⟨k _ _ I.obj (n1 _ (by simp [innF])), ⟨kvs, k _ _ h1 (n1 _ (by simp [innF])), h2.mut k mu n2⟩, ⟨kt, k _ _ h3 (n1 _ (by simp [innF])), tks_mut k mu n2 h4⟩, k _ _ I.past (n1 _ (by simp [innF])), ?_, I.nd, I.off, fun x hx => ?_, I.ok, I.oks⟩
  · exact ps_mut k mu n2 (fun x hx => n1 x (by simp only [innF, List.mem_cons]; exact .inr (.inr (.inr (.inr hx))))) I.pas
  · obtain ⟨o, e⟩ := I.known x hx
    exact ⟨o, k _ _ e (n2 x hx)⟩
theorem InIn.same (I : InIn K H W a dx s t p ps m st pa) (k : Same H H') : InIn K H' W a dx s t p ps m st pa := I.keep (Same.kp k []) muts_nil fun x _ => by simp
theorem IsAt.keep (I : IsAt K H M W v m st pa) (k : Kp L H H') (mu : Muts H L) (n : ∀ x ∈ M ++ W, x ∉ L) : IsAt K H' M W v m st pa := by
  obtain ⟨a, dx, s, t, p, ps, rfl, rfl, I⟩ := I
  exact ⟨a, dx, s, t, p, ps, rfl, rfl, I.keep k mu n⟩
theorem IsAt.same (I : IsAt K H M W v m st pa) (k : Same H H') : IsAt K H' M W v m st pa := I.keep (Same.kp k []) muts_nil fun x _ => by simp
theorem InIn.in (I : InIn K H W a dx s t p ps m st pa) : IsAt K H (innF a s t p ps) W (.ref a) m st pa := ⟨a, dx, s, t, p, ps, rfl, rfl, I⟩
/-- what is apart from an inn's own places -/
theorem InIn.apart (I : InIn K H W a dx s t p ps m st pa) {l r : List Addr} {x y : Addr} (e : innF a s t p ps = l ++ x :: r) (hy : y ∈ l ++ r) : y ≠ x := by
  have h := I.nd
  rw [e, List.nodup_append] at h
  obtain ⟨h1, h2, h3⟩ := h
  rintro rfl
  rcases List.mem_append.mp hy with hy | hy
  · exact h3 y hy y List.mem_cons_self rfl
  · exact (List.nodup_cons.mp h2).1 hy
/-- the object, the shelf, the stays written -/
theorem InIn.chg (I : InIn K H W a dx s t p ps m st pa) (k : Kp [a, s, t] H H') (w : ∀ x ∈ W, x ∈ W') (off' : ∀ x ∈ W', x ∉ innF a s t p ps) (kn : ∀ x ∈ W', ∃ o, H' x = some o) (ho : H' a = some (inO K dx s t p m st'.co)) (hs : ∃ kvs, H' s = some (.dK kvs) ∧ ShAt K H' W' kvs st'.sh) (ht : ∃ kvs, H' t = some (.dK kvs) ∧ TksAt H' W' kvs st'.tk) (ok' : IstOk st') :
    InIn K H' W' a dx s t p ps m st' pa := by
  have mu := I.muts (L := [a, s, t]) fun x hx => by
    simp at hx
    rcases hx with rfl | rfl | rfl <;> simp [innF]
  have nW : ∀ x ∈ W, x ∉ [a, s, t] := fun x hx z => I.off x hx (by
    simp at z
    rcases z with rfl | rfl | rfl <;> simp [innF])
  have nr : ∀ x ∈ p :: ps.flatMap (fun x => [x.2.1, x.2.2]), x ∉ [a, s, t] := fun x hx z => by
    have nd : (a :: s :: t :: p :: ps.flatMap (fun x => [x.2.1, x.2.2])).Nodup := I.nd
    have e : (a :: s :: t :: p :: ps.flatMap (fun x => [x.2.1, x.2.2])) = [a, s, t] ++ p :: ps.flatMap (fun x => [x.2.1, x.2.2]) := rfl
    rw [e, List.nodup_append] at nd
    exact nd.2.2 x z x hx rfl
  exact ⟨ho, hs, ht, k _ _ I.past (nr _ List.mem_cons_self), ps_wide w (ps_mut k mu nW (fun x hx => nr x (List.mem_cons_of_mem _ hx)) I.pas), I.nd, off', kn, ok', I.oks⟩
/-- one more deed kept -/
theorem InIn.push (I : InIn K H W a dx s t p ps m st pa) (hq : H q = some (.tup [.ref s', .ref t', .int st'.co])) (h1 : H s' = some (.dK kvs)) (h2 : ShAt K H W kvs st'.sh) (h3 : H t' = some (.dK kvs')) (h4 : TksAt H W kvs' st'.tk) (ne : s' ≠ t') (n1 : s' ∉ innF a s t p ps) (n2 : t' ∉ innF a s t p ps) (o1 : s' ∉ W) (o2 : t' ∉ W) (ok : IstOk st') :
    InIn K (upd H p (.lst ((ps.map fun x => .ref x.1) ++ [.ref q]))) W a dx s t p (ps ++ [(q, s', t')]) m st (pa ++ [st']) := by
  have k : Kp [p] H (upd H p (.lst ((ps.map fun x => .ref x.1) ++ [.ref q]))) := kp_upd (by simp)
  have mu := muts_one I.past
  have nd := I.nd
  have ne' : ∀ x ∈ [a, s, t] ++ ps.flatMap (fun x => [x.2.1, x.2.2]), x ≠ p := fun x hx => I.apart (l := [a, s, t]) rfl hx
  have nW : ∀ x ∈ W, x ∉ [p] := fun x hx z => I.off x hx (by rw [List.mem_singleton.mp z]; simp [innF])
  have np : ∀ x, x ≠ p → x ∉ [p] := fun x h z => h (List.mem_singleton.mp z)
  have sp : s' ≠ p := fun z => n1 (by rw [z]; simp [innF])
  have tp : t' ≠ p := fun z => n2 (by rw [z]; simp [innF])
  have fs : innF a s t p (ps ++ [(q, s', t')]) = innF a s t p ps ++ [s', t'] := by simp [innF, List.flatMap_append]
  obtain ⟨kv, e1, e2⟩ := I.shelf
  obtain ⟨kt, e3, e4⟩ := I.taken
  refine ⟨k _ _ I.obj (np _ (ne' _ (by simp))), ⟨kv, k _ _ e1 (np _ (ne' _ (by simp))), e2.mut k mu nW⟩, ⟨kt, k _ _ e3 (np _ (ne' _ (by simp))), tks_mut k mu nW e4⟩, by rw [upd_same, List.map_append]; rfl, ?_, ?_, ?_, fun x hx => ?_, I.ok, ?_⟩
  · exact Paired.app (ps_mut k mu nW (fun x hx => np _ (ne' _ (List.mem_append_right _ hx))) I.pas) (.cons ⟨tk_mut k mu _ _ hq, ⟨_, k _ _ h1 (np _ sp), h2.mut k mu nW⟩, ⟨_, k _ _ h3 (np _ tp), tks_mut k mu nW h4⟩⟩ .nil)
  · rw [fs, List.nodup_append]
    refine ⟨nd, by simp [ne], ?_⟩
    rintro x hx y hy rfl
    simp at hy
    rcases hy with rfl | rfl
    · exact n1 hx
    · exact n2 hx
  · intro x hx hm
    rw [fs] at hm
    rcases List.mem_append.mp hm with hm | hm
    · exact I.off x hx hm
    · simp at hm
      rcases hm with rfl | rfl
      · exact o1 hx
      · exact o2 hx
  · obtain ⟨o, e⟩ := I.known x hx
    exact ⟨o, k _ _ e (nW x hx)⟩
  · intro u hu
    rcases List.mem_append.mp hu with hu | hu
    · exact I.oks u hu
    · rw [List.mem_singleton.mp hu]; exact ok
/-- the last deed taken back: the past list and the object written -/
theorem InIn.pop (I : InIn K H W a dx s t p (ps ++ [(q, s', t')]) m st (pa ++ [st'])) (k : Kp [a, p] H H') (ho : H' a = some (inO K dx s' t' p m st'.co)) (hp : H' p = some (.lst (ps.map fun x => .ref x.1))) : InIn K H' W a dx s' t' p ps m st' pa := by
  have fs : innF a s t p (ps ++ [(q, s', t')]) = innF a s t p ps ++ [s', t'] := by simp [innF, List.flatMap_append]
  have mu : Muts H [a, p] := I.muts fun x hx => by simp at hx; rcases hx with rfl | rfl <;> simp [innF]
  have nd := I.nd
  rw [fs] at nd
  have off := I.off
  rw [fs] at off
  have nW : ∀ x ∈ W, x ∉ [a, p] := fun x hx z => off x hx (List.mem_append_left _ (by simp at z; rcases z with rfl | rfl <;> simp [innF]))
  obtain ⟨ps1, x1, e0, P1, hx1⟩ := Paired.snocR I.pas
  obtain ⟨e1, e2⟩ := List.append_inj' e0 rfl
  cases e2
  clear e0
  subst e1
  obtain ⟨h1, ⟨kv, h2, h3⟩, ⟨kt, h4, h5⟩⟩ := hx1
  have ne' : ∀ x ∈ ps.flatMap (fun x => [x.2.1, x.2.2]) ++ [s', t'], x ∉ [a, p] := fun x hx z => by
    have hx' : x ∈ s :: t :: p :: (ps.flatMap (fun x => [x.2.1, x.2.2]) ++ [s', t']) := by simp only [List.mem_cons]; exact .inr (.inr (.inr hx))
    have nd' : (a :: s :: t :: p :: (ps.flatMap (fun x => [x.2.1, x.2.2]) ++ [s', t'])).Nodup := nd
    simp at z
    rcases z with rfl | rfl
    · exact (List.nodup_cons.mp nd').1 hx'
    · exact (List.nodup_cons.mp (List.nodup_cons.mp (List.nodup_cons.mp (List.nodup_cons.mp nd').2).2).2).1 hx
  refine ⟨ho, ⟨kv, k _ _ h2 (ne' _ (by simp)), h3.mut k mu nW⟩, ⟨kt, k _ _ h4 (ne' _ (by simp)), tks_mut k mu nW h5⟩, hp, ps_mut k mu nW (fun x hx => ne' x (List.mem_append_left _ hx)) P1, ?_, fun x hx z => ?_, fun x hx => ?_, I.oks st' (by simp), fun u hu => I.oks u (List.mem_append_left _ hu)⟩
  · have nd' : (a :: s :: t :: p :: (ps.flatMap (fun x => [x.2.1, x.2.2]) ++ [s', t'])).Nodup := nd
    have sub : (a :: p :: (ps.flatMap (fun x => [x.2.1, x.2.2]) ++ [s', t'])).Nodup := nd'.sublist (.cons_cons a (.cons s (.cons t (List.Sublist.refl _))))
    have pm : (innF a s' t' p ps).Perm (a :: p :: (ps.flatMap (fun x => [x.2.1, x.2.2]) ++ [s', t'])) := by
      show (a :: s' :: t' :: p :: ps.flatMap (fun x => [x.2.1, x.2.2])).Perm _
      refine .cons a ?_
      have e : (p :: (ps.flatMap (fun x => [x.2.1, x.2.2]) ++ [s', t'])) = (p :: ps.flatMap (fun x => [x.2.1, x.2.2])) ++ [s', t'] := rfl
      rw [e]
      exact List.perm_append_comm (l₁ := [s', t']) (l₂ := p :: ps.flatMap (fun x => [x.2.1, x.2.2]))
    exact pm.nodup_iff.mpr sub
  · refine off x hx ?_
    have z : x ∈ a :: s' :: t' :: p :: ps.flatMap (fun x => [x.2.1, x.2.2]) := z
    simp only [List.mem_cons, List.mem_append, innF, List.not_mem_nil, or_false] at z ⊢
    rcases z with z | z | z | z | z
    · exact .inl (.inl z)
    · exact .inr (.inl z)
    · exact .inr (.inr z)
    · exact .inl (.inr (.inr (.inr (.inl z))))
    · exact .inl (.inr (.inr (.inr (.inr z))))
  · obtain ⟨o, e⟩ := I.known x hx
    exact ⟨o, k _ _ e (nW x hx)⟩
end
/-- what is told of the class of inns -/
def CFJ (K : PySem.W.Frag) : Prop := exInn K = true
theorem CFJ.cls {K : PySem.W.Frag} (c : CFJ K) : Cls K (He.ga K "Inn") := He.cls_ok (He.ba c).1
theorem CFJ.no {K : PySem.W.Frag} (c : CFJ K) {f : Str} (h : f ∈ (["many", "shelf", "taken", "coming", "past"] : List Str)) : NoAttr K (He.ga K "Inn") f := He.noat_ok (List.all_eq_true.mp (He.ba c).2 f h)
theorem g_jfld {K : PySem.W.Frag} {f : Str} {n : Nat} {σ : L2.St} {H : Hp} {Q : VK} {a dx : Addr} {fs : List (Str × V)} {x : V} (ci : CFJ K) (h : σ[n]? = some (some (.ref a))) (o : H a = some (.ins (He.ga K "Inn") dx fs)) (m : f ∈ (["many", "shelf", "taken", "coming", "past"] : List Str)) (l : fs.lookup f = some x) (q : Q x H) : tFld K (tVar n) f σ H Q :=
  ⟨_, h, a, _, dx, fs, x, rfl, o, ci.cls, ci.no m, l, q⟩
theorem g_jset {K : PySem.W.Frag} {f : Str} {a dx : Addr} {fs : List (Str × V)} {y : V} {H : Hp} {Q : Hp → Prop} (ci : CFJ K) (h : H a = some (.ins (He.ga K "Inn") dx fs)) (m : f ∈ (["many", "shelf", "taken", "coming", "past"] : List Str)) (l : fs.length < 1000) (q : Q (upd H a (.ins (He.ga K "Inn") dx (putF f y fs)))) : rSF K f (.ref a) y H Q :=
  ⟨a, _, dx, fs, rfl, h, ci.cls, ci.no m, l, q⟩
section
variable {K : PySem.W.Frag} {M W : List Addr} {v : V} {k : Int} {st : Ist} {pa : List Ist}
theorem lookup_no {m : Str} {u1 u2 u3 u4 u5 : V} (no : (["many", "shelf", "taken", "coming", "past"] : List Str).all (fun f => !(m == f)) = true) : ([("many", u1), ("shelf", u2), ("taken", u3), ("coming", u4), ("past", u5)] : List (Str × V)).lookup m = none := by
  simp at no
  obtain ⟨n1, n2, n3, n4, n5⟩ := no
  simp [List.lookup, beq_eq_false_iff_ne.mpr n1, beq_eq_false_iff_ne.mpr n2, beq_eq_false_iff_ne.mpr n3, beq_eq_false_iff_ne.mpr n4, beq_eq_false_iff_ne.mpr n5]
theorem g_jmethX {m : Str} {sp : Sp} {t : TA} {n : Nat} {σ : L2.St} {H : Hp} {Q : VK} {E : WX} (h : σ[n]? = some (some v)) (b : IsAt K H M W v k st pa) (no : (["many", "shelf", "taken", "coming", "past"] : List Str).all (fun f => !(m == f)) = true)
    (q : t σ H fun vs H2 => sp (v :: (vs ++ [])) H2 Q (WE E σ)) : tMethX (He.ga K "Inn") m sp [] E (tVar n) t σ H Q := by
  obtain ⟨a, dx, s, t', p, ps, rfl, rfl, I⟩ := b
  exact ⟨_, h, a, dx, _, rfl, I.obj, lookup_no no, q⟩
theorem g_jrobj {m : Str} {H : Hp} {R : Hp → Prop} (b : IsAt K H M W v k st pa) (no : (["many", "shelf", "taken", "coming", "past"] : List Str).all (fun f => !(m == f)) = true) (q : R H) : rObj (He.ga K "Inn") m v H R := by
  obtain ⟨a, dx, s, t', p, ps, rfl, rfl, I⟩ := b
  exact ⟨a, dx, _, rfl, I.obj, lookup_no no, q⟩
end
/-! YXp: full nights (plain). -/
open PySem PySem.Spec PyProof.Rows L2
def nightsT (tk : List Stn) : List Int := tk.flatMap fun e => days e.c e.g
def fullL (m : Int) (tk : List Stn) : List Int := ((nightsT tk).eraseDups.filter fun n => decide (((nightsT tk).count n : Int) = m)).mergeSort fun a b => decide (a ≤ b)
theorem full_mem (m : Int) (tk : List Stn) (n : Int) : n ∈ fullL m tk ↔ n ∈ nightsT tk ∧ ((nightsT tk).count n : Int) = m := by
  unfold fullL
  rw [(List.mergeSort_perm _ _).mem_iff, List.mem_filter, List.mem_eraseDups]
  simp
theorem nodup_eraseDups (l : List Int) : l.eraseDups.Nodup := by
  match l with
  | [] => simp
  | a :: l =>
    rw [List.eraseDups_cons, List.nodup_cons]
    refine ⟨fun h => ?_, nodup_eraseDups _⟩
    rw [List.mem_eraseDups, List.mem_filter] at h
    simp at h
  termination_by l.length
  decreasing_by
    have := List.length_filter_le (fun b => !b == a) l
    simp only [List.length_cons]
    omega
theorem lt_le_nd : ∀ {l : List Int}, l.Pairwise (· ≤ ·) → l.Nodup → l.Pairwise (· < ·)
  | [], _, _ => .nil
  | a :: l, h, d => by
    rw [List.pairwise_cons] at h ⊢
    rw [List.nodup_cons] at d
    exact ⟨fun b hb => by
      have := h.1 b hb
      have : a ≠ b := fun z => d.1 (z ▸ hb)
      omega, lt_le_nd h.2 d.2⟩
theorem full_up (m : Int) (tk : List Stn) : (fullL m tk).Pairwise (· < ·) := by
  unfold fullL
  refine lt_le_nd ?_ ((List.mergeSort_perm _ _).nodup_iff.mpr ((nodup_eraseDups _).filter _))
  have := List.pairwise_mergeSort (le := fun a b : Int => decide (a ≤ b)) (fun a b c h1 h2 => by simp at h1 h2 ⊢; omega) (fun a b => by simp; omega) ((nightsT tk).eraseDups.filter fun n => decide (((nightsT tk).count n : Int) = m))
  exact this.imp fun h => by simpa using h
/-- rising lists of the same things are the same -/
theorem up_eq {l r : List Int} (h1 : l.Pairwise (· < ·)) (h2 : r.Pairwise (· < ·)) (h : ∀ x, x ∈ l ↔ x ∈ r) : l = r := by
  have n1 : l.Nodup := h1.imp fun h => Int.ne_of_lt h
  have n2 : r.Nodup := h2.imp fun h => Int.ne_of_lt h
  have pm := (List.perm_ext_iff_of_nodup n1 n2).mpr h
  exact pm.eq_of_pairwise (fun a b _ _ x y => by omega) h1 h2
theorem nodup_sub : ∀ {ks l : List Int}, ks.Nodup → (∀ i ∈ ks, i ∈ l) → ks.length ≤ l.length
  | [], l, _, _ => Nat.zero_le _
  | k :: ks, l, d, h => by
    rw [List.nodup_cons] at d
    have m := h k List.mem_cons_self
    have := nodup_sub (ks := ks) (l := l.erase k) d.2 fun i hi => (List.mem_erase_of_ne (a := i) (b := k) fun z => d.1 (by rw [← z]; exact hi)).mpr (h i (List.mem_cons_of_mem _ hi))
    rw [List.length_erase_of_mem m] at this
    have := List.length_pos_of_mem m
    rw [List.length_cons]
    omega
theorem nightsT_mem {tk : List Stn} {n : Int} : n ∈ nightsT tk ↔ ∃ e ∈ tk, e.c ≤ n ∧ n < e.g := by
  unfold nightsT
  rw [List.mem_flatMap]
  constructor
  · rintro ⟨e, he, h⟩
    exact ⟨e, he, days_mem h⟩
  · rintro ⟨e, he, h⟩
    exact ⟨e, he, mem_days.mpr h⟩
theorem nightsT_len {tk : List Stn} (h : ∀ e ∈ tk, StayB e.c e.g) : (nightsT tk).length ≤ 14 * tk.length := by
  induction tk with
  | nil => simp [nightsT]
  | cons e tk ih =>
    have := ih fun e he => h e (List.mem_cons_of_mem _ he)
    have h0 := h e List.mem_cons_self
    obtain ⟨h1, h2, h3, h4⟩ := h0
    unfold nightsT at this ⊢
    rw [List.flatMap_cons, List.length_append, days_len, List.length_cons]
    omega
theorem full_day {m : Int} {tk : List Stn} (h : ∀ e ∈ tk, StayB e.c e.g) {n : Int} (hn : n ∈ fullL m tk) : 0 ≤ n ∧ n ≤ 1000000 := by
  obtain ⟨e, he, h1, h2⟩ := nightsT_mem.mp ((full_mem m tk n).mp hn).1
  obtain ⟨a, b, c, d⟩ := h e he
  omega
theorem full_len {m : Int} {tk : List Stn} (h : ∀ e ∈ tk, StayB e.c e.g) : (fullL m tk).length ≤ 14 * tk.length :=
  Nat.le_trans (nodup_sub ((full_up m tk).imp fun h => Int.ne_of_lt h) fun i hi => ((full_mem m tk i).mp hi).1) (nightsT_len h)
/-- the books of a state, full nights not sold -/
def nowB (m : Int) (st : Ist) : List (List RuleD) := st.sh.map fun e => e.2 ++ fullR (fullL m st.tk)
theorem now_good {m : Int} {st : Ist} (o : IstOk st) : GoodB (nowB m st) := fun rs hrs r hr => by
  obtain ⟨e, he, rfl⟩ := List.mem_map.mp hrs
  rcases List.mem_append.mp hr with hr | hr
  · exact o.sh.good e he r hr
  · exact full_good (fun d hd => full_day o.stay hd) r hr
/-- counts, as a dict of whole numbers -/
def cntF (l : List Int) : Df := fun i => if l.count i = 0 then none else some (.int (l.count i : Nat))
theorem cntF_nil : cntF [] = fun _ => none := by funext i; simp [cntF]
theorem cntF_snoc (l : List Int) (n : Int) : cntF (l ++ [n]) = dset (cntF l) n (.int ((l.count n : Nat) + 1 : Int)) := by
  funext j
  unfold cntF dset
  by_cases h : j = n
  · subst h
    rw [if_pos rfl, List.count_append]
    simp
  · rw [if_neg h, List.count_append]
    have : List.count j [n] = 0 := List.count_eq_zero.mpr (by simp [h])
    rw [this, Nat.add_zero]
theorem cntF_is (l : List Int) (i : Int) : (cntF l i).isSome = true ↔ i ∈ l := by
  unfold cntF
  split
  · rename_i h
    simp [List.count_eq_zero.mp h]
  · rename_i h
    simp
    exact List.count_pos_iff.mp (by omega)
/-- a dict of counts, row by row -/
theorem cnt_rows {H : Hp} {kvs : Kvs} {ks : List Int} {l : List Int} (e : kvs.map (·.1) = ks.map Sum.inl) (nd : ks.Nodup) (h : ∀ i : Int, OTd H (valV kvs (.inl i)) (cntF l i)) : kvs = ks.map fun n => (.inl n, .int (l.count n : Nat)) := by
  have main : ∀ (ks' : List Int) (kvs' : Kvs), kvs'.map (·.1) = ks'.map Sum.inl → ks'.Nodup → (∀ i ∈ ks', OTd H (valV kvs' (.inl i)) (some (.int (l.count i : Nat)))) → kvs' = ks'.map fun n => (.inl n, .int (l.count n : Nat)) := by
    intro ks'
    induction ks' with
    | nil =>
      intro kvs' e _ _
      simpa using e
    | cons k ks' ih =>
      intro kvs' e nd h
      cases kvs' with
      | nil => simp at e
      | cons p kvs' =>
        rw [List.map_cons, List.map_cons] at e
        obtain ⟨e1, e2⟩ := List.cons.inj e
        rw [List.nodup_cons] at nd
        have h0 := h k List.mem_cons_self
        rw [valV_pos (p := p) (r := kvs') e1] at h0
        have h1 : p.2 = .int (l.count k : Nat) := by
          have h0 : Td H p.2 (.int (l.count k : Nat)) := h0
          generalize p.2 = w at h0 ⊢
          cases h0
          rfl
        rw [List.map_cons, ← ih kvs' e2 nd.2 fun i hi => by
          have := h i (List.mem_cons_of_mem _ hi)
          rwa [valV_neg (p := p) (r := kvs') (fun z => nd.1 (by rw [e1] at z; rw [Sum.inl.inj z]; exact hi))] at this]
        congr 1
        exact Prod.ext e1 h1
  refine main ks kvs e nd fun i hi => ?_
  have m := (cntF_is l i).mp ((dic_keys e h i).mp hi)
  have := h i
  unfold cntF at this
  rwa [if_neg (Nat.ne_of_gt (List.count_pos_iff.mpr m))] at this
theorem di_putL {H : Hp} {a : Addr} {F : Df} {i : Int} {v : V} {d : PyData} {R : Hp → Prop} (h : DicI H a F) (t : Td H v d) {l : List Int} (r : ∀ j, (F j).isSome = true → j ∈ l) (hn : l.length < 100000)
    (q : ∀ H', Kp [a] H H' → Tk H H' → DicI H' a (dset F i d) → R H') : ∃ a' H4, V.ref a = .ref a' ∧ DPut H a' (.int i) v H4 ∧ R H4 := by
  obtain ⟨kvs, ks, h1, h2, h3, h4⟩ := h
  have hl : ks.length ≤ l.length := nodup_sub h3 fun j hj => r j ((dic_keys h2 h4 j).mp hj)
  have hkk : kvs.length = ks.length := by
    have := congrArg List.length h2
    simpa using this
  refine ⟨a, _, rfl, DPut.k (k := Sum.inl i) h1 (by have : sizeLine = 16777216 := rfl; omega), ?_⟩
  have tk : Tk H (upd H a (.dK (putK kvs (Sum.inl i) v))) := (ik_dic h1).tup
  refine q _ (kp_upd (by simp)) tk ?_
  have hv : ∀ j : Int, OTd (upd H a (.dK (putK kvs (Sum.inl i) v))) (valV (putK kvs (Sum.inl i) v) (.inl j)) (dset F i d j) := fun j => by
    rw [valV_put]
    unfold dset
    by_cases z : j = i
    · rw [if_pos z, if_pos (by rw [z])]
      exact t.tk tk
    · rw [if_neg z, if_neg (fun e => z (Sum.inl.inj e))]
      exact (h4 j).tk tk
  cases ho : valV kvs (.inl i) with
  | none =>
    refine ⟨_, ks ++ [i], upd_same, ?_, ?_, hv⟩
    · rw [putK_new v ho, List.map_append, List.map_append, h2]
      rfl
    · rw [List.nodup_append]
      refine ⟨h3, by simp, fun x hx y hy z => ?_⟩
      obtain rfl : y = i := by simpa using hy
      have := (dic_keys h2 h4 x).mp hx
      have h5 := h4 x
      rw [z] at this h5
      rw [ho] at h5
      obtain ⟨w, hw⟩ := Option.isSome_iff_exists.mp this
      rw [hw] at h5
      exact h5
  | some w =>
    refine ⟨_, ks, upd_same, ?_, h3, hv⟩
    have : (kvs.any fun kv => decide (kv.1 = Sum.inl i)) = true := by rw [valV_any, ho]; rfl
    unfold putK
    rw [if_pos this, List.map_map, ← h2]
    refine List.map_congr_left fun kv _ => ?_
    show (if kv.1 = Sum.inl i then (kv.1, v) else kv).1 = kv.1
    split <;> rfl
/-- one more in a dict of counts -/
theorem cnt_put {H : Hp} {a : Addr} {l : List Int} {n : Int} {R : Hp → Prop} (h : DicI H a (cntF l)) (hl : l.length < 100000)
    (q : ∀ H', Kp [a] H H' → Tk H H' → DicI H' a (cntF (l ++ [n])) → R H') : ∃ a' H4, V.ref a = .ref a' ∧ DPut H a' (.int n) (.int ((l.count n : Nat) + 1 : Int)) H4 ∧ R H4 :=
  di_putL h (.int ((l.count n : Nat) + 1 : Int)) (fun j hj => (cntF_is l j).mp hj) hl fun H' k tk h => q H' k tk (by rw [cntF_snoc]; exact h)
theorem flt_ints (P : Int → Prop) [DecidablePred P] : ∀ ks : List Int, ks.filterMap (fun n => if P n then some (V.int n) else none) = (ks.filter fun n => decide (P n)).map V.int
  | [] => rfl
  | k :: ks => by
    by_cases z : P k
    · rw [List.filterMap_cons, if_pos z, List.filter_cons, if_pos (decide_eq_true z), List.map_cons, flt_ints P ks]
    · rw [List.filterMap_cons, if_neg z, List.filter_cons, if_neg (by simpa using z), flt_ints P ks]
/-! YIt: sorted(d.items()), d's keys whole numbers that rise. -/
open PySem PySem.Spec PyProof.Rows L2
theorem paired_memL {α β : Type} {F G : α → β → Prop} : ∀ {as : List α} {bs : List β}, Paired F as bs → (∀ a b, a ∈ as → F a b → G a b) → Paired G as bs
  | _, _, .nil, _ => .nil
  | _, _, .cons h t, f => .cons (f _ _ List.mem_cons_self h) (paired_memL t fun a b ha => f a b (List.mem_cons_of_mem _ ha))
section
variable {X : Cx}
/-- the tuples of a view, tracked -/
theorem items_put {pins : List (Addr × Obj)} {σ : L2.St} {H : Hp} {s : Shared} {h' : Heap} {tk : Nat} {kvs : List (Key × V)} {vs : List (Key × Value)} {as : List Addr} (I : Inv X pins σ H s) (kv : KV kvs vs)
    (hk : ∀ b o, s.heap.get? b = some o → h'.get? b = some o) (hl : as.length = vs.length) (hG : PySem.W.KdxG (mixKind X.prog X.w) vs s.heap.objs.size h' as) :
    ∃ H' : Hp, (∀ b o, H b = some o → H' b = some o) ∧ (∀ t ∈ as, H t = none) ∧ Paired (fun (t : Addr) (q : Key × V) => H' t = some (.tup [kV q.1, q.2])) as kvs ∧ Inv X pins σ H' { s with heap := h', toks := tk } := by
  have lk : kvs.length = vs.length := Paired.length kv
  have nd : as.Nodup := List.Pairwise.imp (fun {a b} (h : a < b) => Nat.ne_of_lt h) hG.rise
  have new : ∀ t ∈ as, H t = none := fun t ht => I.hok.fresh (Nat.le_of_lt (hG.above t ht))
  have atP := LiI.putT_at as kvs H (by omega) nd
  have off : ∀ b, b ∉ as → LiI.putT H as kvs b = H b := fun b h1 => LiI.putT_off as kvs _ h1
  have low : ∀ b o, s.heap.get? b = some o → b ∉ as := fun b o e z => absurd (Heap.lt_size e) (Nat.not_lt.mpr (Nat.le_of_lt (hG.above b z)))
  have kp : ∀ b u, H b = some u → LiI.putT H as kvs b = some u := fun b u e => by
    rw [off b (fun z => by rw [new b z] at e; cases e)]
    exact e
  refine ⟨LiI.putT H as kvs, kp, new, atP, ?_⟩
  refine I.call' (ch := []) rfl ⟨fun b o q _ _ _ => hk b o q, fun b o q _ _ _ => ⟨o.slots, hk b o q⟩, fun b o q n _ => ?_, fun b o q _ => ⟨o, hk b o q⟩, fun b xs q => kp b _ q, fun b o u q => kp b _ q, fun b ps q => ⟨#[], by rw [kp b _ q]; simp⟩⟩ (fun b u q => ?_) I.bare fun b z => by simp at z
  · rw [off b (low b o q)]
    exact n
  · by_cases hb : b ∈ as
    · obtain ⟨j, pk, e1, e2, e3⟩ := LiI.paired_ix atP hb
      rw [e3] at q
      cases q
      obtain ⟨key, k, x, f1, f2, f3⟩ := hG.pairs j b e1
      obtain ⟨qv, g1, g2, g3⟩ := LiI.paired_get kv e2
      rw [f1] at g1
      cases g1
      have rk : RelV (kV pk.1) key := by
        rw [g2]
        exact relV_key (show keyIs k key = true from f2)
      exact ⟨by show 2 ≤ sizeLine; decide, [key, x], .cons rk (.cons g3 .nil), ⟨_, f3, rfl, _, rfl⟩⟩
    · rw [off b hb] at q
      exact (I.hok b u q).stay (fun d v _ y => hk d v y) (fun d y => kp d _ y) fun d xs y => kp d _ y
end
/-- list.sort of tuples whose first items are rising ints: nothing changes -/
theorem sort_tups {prog : Program} {w : World} {A : Around} {E : Value → Shared → Prop} {s : Shared} {Q : Value → Shared → Prop} {a : Addr} {n : Nat} {ps : List (Addr × Int)} (hob : s.heap.get? a = some (seqObj "list" (ps.map fun p => Value.ref p.1).toArray n)) (h64 : ps.length < 64)
    (tp : ∀ p ∈ ps, p.1 ≠ a ∧ Tup1 s.heap p.1 p.2) (ho : (ps.map (·.2)).Pairwise (· < ·)) (q : Q .none { s with heap := sortedHeap s.heap a (ps.map fun p => Value.ref p.1) (ps.map fun p => Value.ref p.1).toArray }) :
    wpAny (model prog w) A (call (.builtin "list.sort") [.ref a]) Q E s := by
  have l2 : (ps.map fun p => Value.ref p.1).length = ps.length := List.length_map ..
  by_cases h2 : 2 ≤ ps.length
  · refine wpAny_call_entry PyProof.Rows.slot_list_sort ⟨_, hob, rfl⟩ PyProof.Rows.entry_list_sort
      (list_sort_asc (κ := tuples' true) hob (by rw [l2]; exact h2) (by rw [l2]; exact h64) (fun h' k => ?_) (fun h' k i h1 h3 C hC => ?_) ⟨.none, rfl, q⟩) (PyProof.Rows.args_list_sort _)
    · obtain ⟨fs, t1, t2, t3⟩ := tups1 (h := h') (ps := ps) fun p hp' => (tp p hp').2.keep fun o e => k p.1 o (tp p hp').1 e
      refine PySem.W.kat_kind (s := { s with heap := h' }) (T := Value.type "int") t1 (by omega) (fun v hv => ?_) rfl ⟨by rw [tup1_kind], rfl⟩
      obtain ⟨m, t, e⟩ := t3 v hv
      subst e
      exact PySem.W.Looks.of_pure rfl
    · have hi : i < ps.length := by rw [l2] at h3; exact h3
      have hj : i - 1 < ps.length := by omega
      have e1 : (ps.map fun p => Value.ref p.1).getD i Value.none = Value.ref ps[i].1 := by simp [hi]
      have e2 : (ps.map fun p => Value.ref p.1).getD (i - 1) Value.none = Value.ref ps[i - 1].1 := by simp [hj]
      have hlt : ps[i - 1].2 < ps[i].2 := by
        have z := List.pairwise_iff_getElem.mp ho (i - 1) i (by simpa using hj) (by simpa using hi) (by omega)
        simpa using z
      have hne : (ps[i].2 == ps[i - 1].2) = false := beq_eq_false_iff_ne.mpr (by omega)
      have hnl : decide (ps[i].2 < ps[i - 1].2) = false := decide_eq_false (by omega)
      have m1 := tp _ (List.getElem_mem hi)
      have m2 := tp _ (List.getElem_mem hj)
      obtain ⟨o, xs, n1, t, r, g1, g2, g3, g4⟩ := m1.2.keep (h' := h') fun o e => k _ o m1.1 e
      obtain ⟨o', xs', n1', t', r', g1', g2', g3', g4'⟩ := m2.2.keep (h' := h') fun o e => k _ o m2.1 e
      unfold PySem.W.kas_ask
      rw [e1, e2]
      refine PySem.W.kat_lt (s := { s with heap := h' }) g1 g3 g1' g3' ?_
      rw [g4, g4']
      show PySem.W.KatLex _ _ _ _ _ _ ((Value.int ps[i].2 t, Value.int ps[i - 1].2 t') :: r.zip r') 0 _
      refine PySem.W.kat_cons (wpAny_eqBool_int ?_)
      rw [hne]
      refine PySem.W.kat_no ?_
      show wpAny _ _ (oneLt' true (Value.int ps[i].2 t) (Value.int ps[i - 1].2 t')) _ _ _
      refine oneLt_int ?_
      rw [hnl]
      exact hC
  · refine wpAny_call_entry PyProof.Rows.slot_list_sort ⟨_, hob, rfl⟩ PyProof.Rows.entry_list_sort
      (SrtO.list_sort_ord SrtO.swo_int hob (by rw [l2, sizeLine_eq]; omega) (fun h => absurd (by rw [l2] at h; exact h) h2) fun out h1 h3 => ⟨.none, rfl, ?_⟩) (PyProof.Rows.args_list_sort _)
    have e : out = ps.map fun p => Value.ref p.1 := by
      have pm := h3.perm
      match ps, h2, pm with
      | [], _, pm => exact pm.eq_nil
      | [p], _, pm => exact List.perm_singleton.mp pm
      | _ :: _ :: _, h2, _ => exact absurd (by simp) h2
    rw [e]
    exact q
theorem tups_of {h : Heap} {X : Cx} : ∀ {as : List Addr} {vs : List (Key × Value)} {ks : List Int} {i : Nat}, vs.map (·.1) = ks.map Sum.inl → as.length = vs.length → (∀ (j : Nat) (a : Addr), as[j]? = some a → ∃ key k x, vs[j]? = some (k, x) ∧ (mixKind X.prog X.w).is k key = true ∧ h.get? a = some { cls := .type "tuple", data := .seq #[key, x] }) → ∀ p ∈ as.zip ks, Tup1 h p.1 p.2
  | as, vs, ks, i, ek, hl, hp, p, hm => by
    obtain ⟨j, hj⟩ := List.mem_iff_getElem?.mp hm
    rw [List.getElem?_zip_eq_some] at hj
    obtain ⟨key, k, x, e1, e2, e3⟩ := hp j p.1 hj.1
    have e4 : (vs.map (·.1))[j]? = some k := by rw [List.getElem?_map, e1]; rfl
    rw [ek, List.getElem?_map, hj.2] at e4
    cases e4
    have e5 : keyIs (.inl p.2) key = true := e2
    obtain ⟨t, rfl⟩ : ∃ t, key = .int p.2 t := by
      have := relV_key e5
      exact this
    exact ⟨_, _, _, t, [x], e3, rfl, rfl, rfl⟩
theorem kv_keys : ∀ {kvs : List (Key × V)} {vs : List (Key × Value)}, KV kvs vs → vs.map (·.1) = kvs.map (·.1)
  | _, _, .nil => rfl
  | _, _, .cons h t => by rw [List.map_cons, List.map_cons, kv_keys t, h.1]
/-- sorted(d.items()): the keys whole numbers that rise -/
def rSortItems : V → Hp → VK → Prop := fun x H Q => ∃ (d : Addr) (kvs : List (Key × V)) (ks : List Int), x = .ref d ∧ H d = some (.dK kvs) ∧ kvs.map (·.1) = ks.map Sum.inl ∧ ks.Pairwise (· < ·) ∧ ks.length < 64 ∧
  ∀ (H' : Hp) (p : Addr) (ts : List Addr), Same H H' → Fr H p → (∀ t ∈ ts, Fr H t) → p ∉ ts → H' p = some (.lst (ts.map V.ref)) → Paired (fun (t : Addr) (q : Key × V) => H' t = some (.tup [kV q.1, q.2])) ts kvs → Q (.ref p) H'
def tSortItems (te : TE) : TE := fun σ H Q => te σ H fun x H1 => rSortItems x H1 Q
theorem pe_sortItems {X : Cx} {e : Expr} {te : TE} {p apos cpos pos : Pos} (hc : X.calm = true) (hg : Gl X "sorted") (hm : X.mg "sorted" = none) (he : PE X e te) (hbase : attributeBase e "items" X.env (eval e X.env) = eval e X.env := by rfl) (hline : (apos.endLine == cpos.line) = true := by rfl)
    (hs : starEach [.Call (.Attribute e "items" apos) [] [] cpos] X.env = (false, eval (.Call (.Attribute e "items" apos) [] [] cpos) X.env) :: starEach [] X.env := by rfl) :
    PE X (.Call (.Name "sorted" p) [.Call (.Attribute e "items" apos) [] [] cpos] [] pos) (tSortItems te) := by
  refine ⟨fun pins s σ H Q I hq => Call_ (ld_blt I hg hm boot_sorted (PyProof.Rows.callWith_builtin1 ?_ hs rfl))⟩
  rw [hs]
  show wpAny _ _ (spliced ((false, eval (.Call (.Attribute e "items" apos) [] [] cpos) X.env) :: backTo pos (starEach [] X.env))) _ _ s
  refine Calls.spliced_cons ?_
  refine wpAny_Call_method (T := "dict") (id := "dict.items") hbase rfl hline F.plainAttrs_dict F.slot_dict_items F.type_dict_items (thn (he.run pins s σ H _ I hq) fun u s1 ⟨x, H1, I1, rx, d, kvs, ks, ex, hd, ek, asc, hlt, q⟩ => ?_)
  subst ex
  obtain rfl : u = Value.ref d := rx
  obtain ⟨hz, hs0, vs, kv, hdo⟩ := I1.hok d _ hd
  obtain ⟨ep, hat⟩ := hdo.dictAt
  have lk : kvs.length = vs.length := Paired.length kv
  have lks : kvs.length = ks.length := by rw [← List.length_map (f := (·.1)), ek, List.length_map]
  have I2 : Inv X pins σ H1 { s1 with heap := s1.heap.push { cls := .type "dict_items", data := .fields #[.ref d] } } := I1.kept (t' := s1.toks) fun b ob q => Heap.get?_push_of_some _ q
  refine ⟨hdo.typeIs, hdo.mapOf.noDict, ?_⟩
  show wpAny _ _ (callWith cpos (.builtin "dict.items") [.ref d] [] []) _ X.xe s1
  refine method_meetsIn F.slot_dict_items F.entry_dict_items rfl (PySem.evalArgs_none ⟨rfl, hdo.typeIs, F.args_dict_items_1 _, _, meets_dict_items (mixKind X.prog X.w) d hs0, ⟨vs, hdo⟩, ?_⟩)
  refine Calls.spliced_nil ?_
  refine Calls.call_function_entry kind_sorted plain_sorted entry_sorted (args_sorted1 _) ?_
  unfold Builtin.«sorted»
  refine wpAny_bind (m := checkCount "sorted" 1 1 _) (wpAny_pure ?_)
  refine wpAny_bind (PySem.W.kdx_collect (A := X.A.in1) (knd := mixKind X.prog X.w) (kvs := vs) (ep := ep) (I1.ok.hd hc) ⟨_, Heap.get?_push_size _ rfl, rfl, rfl⟩ (hat.push _) (by omega) fun h' tk as hk hl hG => ?_)
  obtain ⟨H', k1, k2, k3, J⟩ := items_put (tk := tk) I2 kv hk hl hG
  have ekv : vs.map (·.1) = ks.map Sum.inl := (kv_keys kv).trans ek
  have tp := tups_of (X := X) (i := 0) ekv hl hG.pairs
  have lz : (as.zip ks).length = as.length := by rw [List.length_zip]; omega
  have e1 : (as.zip ks).map (fun p => Value.ref p.1) = as.map Value.ref := by
    rw [show (fun p : Addr × Int => Value.ref p.1) = Value.ref ∘ Prod.fst from rfl, ← List.map_map, List.map_fst_zip (by omega)]
  have e2 : (as.zip ks).map (·.2) = ks := List.map_snd_zip (by omega)
  have low : ∀ a ∈ as, a < h'.objs.size := fun a ha => hG.there ha
  have hoL : (h'.push (seqObj "list" ((as.zip ks).map fun p => Value.ref p.1).toArray 0)).get? h'.objs.size = some (seqObj "list" ((as.zip ks).map fun p => Value.ref p.1).toArray 0) := Heap.get?_push_size _ rfl
  rw [← e1]
  refine wpAny_bind (wpAny_newList (wpAny_bind (wpAny_holding (sort_tups (s := { s1 with heap := h'.push (seqObj "list" ((as.zip ks).map fun p => Value.ref p.1).toArray 0), toks := tk }) hoL (by rw [lz]; omega) (fun p hp => ?_) (by rw [e2]; exact asc) ?_))) (by rw [List.length_map, lz, sizeLine_eq]; omega))
  · have ha := (List.of_mem_zip (show (p.1, p.2) ∈ as.zip ks from hp)).1
    exact ⟨Nat.ne_of_lt (low _ ha), (tp p hp).keep fun o e => Heap.get?_push_of_some _ e⟩
  · obtain ⟨c, hcs⟩ := PyProof.Rows.sortedHeap_at (vs := (as.zip ks).map fun p => Value.ref p.1) (out := ((as.zip ks).map fun p => Value.ref p.1).toArray) hoL
    have fD : H' h'.objs.size = none := J.hok.fresh (Nat.le_refl _)
    have nas : h'.objs.size ∉ as := fun z => Nat.lt_irrefl _ (low _ z)
    have fD1 : H1 h'.objs.size = none := by
      cases e : H1 h'.objs.size with
      | none => rfl
      | some o => rw [k1 _ _ e] at fD; cases fD
    refine wpAny_pure ⟨_, rfl, .ref h'.objs.size, upd H' h'.objs.size (.lst (as.map V.ref)), J.laid (t' := tk) (fun b u e => ?_) (Nat.le_refl _) ⟨by rw [List.length_map, sizeLine_eq]; omega, as.map Value.ref, c, LiI.vals_refs as, ?_⟩, rfl, q _ _ as (fun b o e => at_ne (fun z => by rw [z] at e; rw [fD1] at e; cases e) (k1 _ _ e)) fD1 k2 nas upd_same ?_⟩
    · have lt := Heap.lt_size e
      show (sortedHeap (h'.push (seqObj "list" ((as.zip ks).map fun p => Value.ref p.1).toArray 0)) h'.objs.size _ _).get? b = some u
      rw [PyProof.Rows.sortedHeap_old (Nat.ne_of_lt lt) (by rw [size_push']; exact Nat.lt_succ_of_lt lt)]
      exact Heap.get?_push_of_some _ e
    · rw [← e1]
      exact hcs
    · exact paired_memL k3 fun t q ht h => at_ne (fun z => nas (by rw [← z]; exact ht)) h
theorem g_sortItems {te : TE} {σ : L2.St} {H : Hp} {Q : VK} (h : te σ H fun x H1 => rSortItems x H1 Q) : tSortItems te σ H Q := h
/-! YZz: zip(list, zip(list, list)). -/
open PySem PySem.Spec PyProof.Rows L2
abbrev IsZq (h : Heap) (z TI TO : Addr) (f0 : Value) (f : Bool) : Prop := h.get? z = some { cls := .type "zip", dict := none, data := .fields #[f0, .bool f, .bool false, .ref TI, .ref TO], slots := #[] }
def F0 (v : Value) : Prop := v = .none ∨ ∃ T : Nat, v = rawInt T
/-- the inner zip (its cells n .. n + 4) stands at its i-th pair -/
def ZqAt (h : Heap) (n l2 l3 i : Nat) : Prop := (∃ f0 f, F0 f0 ∧ IsZq h (n + 4) (n + 2) (n + 3) f0 f) ∧ IsPair h (n + 2) (.ref n) (.ref (n + 1)) ∧ (∃ a b, IsPair h (n + 3) a b) ∧ h.IsListIter n l2 i ∧ h.IsListIter (n + 1) l3 i
theorem ZqAt.keep {h h' : Heap} {n l2 l3 i : Nat} (z : ZqAt h n l2 l3 i) (k : ∀ c o, n ≤ c → c ≤ n + 4 → h.get? c = some o → h'.get? c = some o) : ZqAt h' n l2 l3 i := by
  obtain ⟨⟨f0, f, hf, hz⟩, hTI, ⟨a, b, hTO⟩, h1, h2⟩ := z
  exact ⟨⟨f0, f, hf, k _ _ (by omega) (by omega) hz⟩, k _ _ (by omega) (by omega) hTI, ⟨a, b, k _ _ (by omega) (by omega) hTO⟩, h1.at fun o e => k _ o (by omega) (by omega) e, h2.at fun o e => k _ o (by omega) (by omega) e⟩
section
variable {prog : Program} {w : World} {A : Around} {E : Value → Shared → Prop} {s : Shared}
/-- the outer zip (its cells n + 5 .. n + 8) stands at its i-th pair -/
def ZzAt (h : Heap) (n l1 l2 l3 i : Nat) (f0 : Value) : Prop := IsZip h (n + 8) (n + 6) (n + 7) f0 ∧ IsPair h (n + 6) (.ref (n + 5)) (.ref (n + 4)) ∧ (∃ a b, IsPair h (n + 7) a b) ∧ h.IsListIter (n + 5) l1 i ∧ ZqAt h n l2 l3 i
theorem ZzAt.keep {h h' : Heap} {n l1 l2 l3 i : Nat} {f0 : Value} (z : ZzAt h n l1 l2 l3 i f0) (k : ∀ c o, n ≤ c → c ≤ n + 8 → h.get? c = some o → h'.get? c = some o) : ZzAt h' n l1 l2 l3 i f0 := by
  obtain ⟨hz, hTI, ⟨a, b, hTO⟩, h1, h2⟩ := z
  exact ⟨k _ _ (by omega) (by omega) hz, k _ _ (by omega) (by omega) hTI, ⟨a, b, k _ _ (by omega) (by omega) hTO⟩, h1.at fun o e => k _ o (by omega) (by omega) e, h2.keep fun c o c1 c2 e => k c o c1 (by omega) e⟩
end
def cells9 (n : Nat) : List Addr := [n + 8, n, n + 1, n + 2, n + 3, n + 4, n + 5, n + 6, n + 7]
/-- zip(a, zip(b, c)) of lists: each turn two new pairs -/
def Itzz (K : PySem.W.Frag) (a b c : Addr) : It :=
  ⟨fun i H => ∃ (xs ys zs : List V) (x y z : V), SqL K H a xs ∧ SqL K H b ys ∧ SqL K H c zs ∧ xs[i]? = some x ∧ ys[i]? = some y ∧ zs[i]? = some z,
    fun i H v H' => ∃ T2 T x y z, v = .ref T ∧ H T2 = none ∧ upd H T2 (.tup [y, z]) T = none ∧ H' = upd (upd H T2 (.tup [y, z])) T (.tup [x, .ref T2]) ∧ (∀ xs, SqL K H a xs → xs[i]? = some x) ∧ (∀ ys, SqL K H b ys → ys[i]? = some y) ∧ ∀ zs, SqL K H c zs → zs[i]? = some z,
    fun i H => ∃ xs : List V, SqL K H a xs ∧ xs.length ≤ i⟩
abbrev zzH1 (h : Heap) (l1 : Addr) : Heap := h.push { cls := .type "list_iterator", data := .fields #[.ref l1, .int 0 0] }
abbrev zzH2 (h : Heap) (l1 z : Addr) : Heap := (zzH1 h l1).push { cls := .type "tuple", data := .seq #[.ref h.objs.size, .ref z] }
abbrev zzH3 (h : Heap) (l1 z : Addr) : Heap := (zzH2 h l1 z).push { cls := .type "tuple", data := .seq #[.none, .none] }
abbrev zzH4 (h : Heap) (l1 z : Addr) : Heap := (zzH3 h l1 z).push { cls := .type "zip", data := .fields #[.none, .bool false, .bool false, .ref (zzH1 h l1).objs.size, .ref (zzH2 h l1 z).objs.size] }
section
variable {prog : Program} {w : World} {A : Around} {E : Value → Shared → Prop} {s : Shared}
end
def iZz (K : PySem.W.Frag) (ta tb tc : TE) : TI := fun σ H R => ta σ H fun x H1 => tb σ H1 fun y H2 => tc σ H2 fun z H3 => ∃ a b c xs ys zs, x = .ref a ∧ y = .ref b ∧ z = .ref c ∧ SqL K H3 a xs ∧ SqL K H3 b ys ∧ SqL K H3 c zs ∧ R (Itzz K a b c) H3
/-! YZl: list(zip(xs, ys)). -/
open PySem PySem.Spec PyProof.Rows L2
section
variable {prog : Program} {w : World} {A : Around} {E : Value → Shared → Prop} {s : Shared}
/-- the tuples that a zip gave, at as -/
structure ZpG (xs ys : Array Value) (lo : Nat) (h : Heap) (as : List Addr) : Prop where
  rise : as.Pairwise (· < ·)
  above : ∀ a ∈ as, lo < a
  there : ∀ a ∈ as, a < h.objs.size
  pairs : ∀ (j : Nat) (a : Addr), as[j]? = some a → ∃ x y, xs[j]? = some x ∧ ys[j]? = some y ∧ IsPair h a x y
end
/-- list(zip(xs, ys)): new tuples in a new list -/
def tListZip (K : PySem.W.Frag) (ta : TA) : TE := fun σ H Q => ta σ H fun vs H1 => ∃ a b xs ys, vs = [.ref a, .ref b] ∧ SqL K H1 a xs ∧ SqL K H1 b ys ∧
  ∀ (H' : Hp) (p : Addr) (ts : List Addr), Same H1 H' → Fr H1 p → (∀ t ∈ ts, Fr H1 t) → p ∉ ts → H' p = some (.lst (ts.map V.ref)) → Paired (fun (t : Addr) (q : V × V) => H' t = some (.tup [q.1, q.2])) ts (xs.zip ys) → Q (.ref p) H'
/-- pairs tracked at their addresses -/
def putZ : Hp → List Addr → List (V × V) → Hp
  | H, a :: as, p :: kvs => putZ (upd H a (.tup [p.1, p.2])) as kvs
  | H, _, _ => H
/-! Y9 (second family): drawn rules, days, stays. -/
open PySem PySem.Spec PyProof.Rows L2
def sp_Lcoins (K : PySem.W.Frag) : Sp := Sp1 fun x H Q E => ∃ (t b s : Addr), x = .ref t ∧ Tape H t b s ∧ ∀ (i : Int) (H' : Hp), Tape H' t b s → Kp [t, b] H H' → 0 ≤ i → i ≤ 1000000000000 → Q (.int i) H'
theorem g_Lcoins {K : PySem.W.Frag} {t b s : Addr} {H : Hp} {Q : VK} {E : XK} (T : Tape H t b s) (q : ∀ (i : Int) (H' : Hp), Tape H' t b s → Kp [t, b] H H' → 0 ≤ i → i ≤ 1000000000000 → Q (.int i) H') : sp_Lcoins K ([.ref t] ++ []) H Q E := ⟨_, rfl, t, b, s, rfl, T, q⟩
def sp_Lworth (K : PySem.W.Frag) : Sp := Sp2 fun x y H Q E => ∃ (t b s : Addr) (w : Wd), x = .ref t ∧ y = .str w.word ∧ Tape H t b s ∧ ∀ (v : V) (d : PyData) (H' : Hp), Tape H' t b s → Kp [t, b] H H' → Td H' v d → fitsD w d = true → Q v H'
theorem g_Lworth {K : PySem.W.Frag} {t b s : Addr} {w : Wd} {H : Hp} {Q : VK} {E : XK} (T : Tape H t b s) (q : ∀ (v : V) (d : PyData) (H' : Hp), Tape H' t b s → Kp [t, b] H H' → Td H' v d → fitsD w d = true → Q v H') : sp_Lworth K ([.ref t, .str w.word] ++ []) H Q E := ⟨_, _, rfl, t, b, s, w, rfl, rfl, T, q⟩
def sp_Lrule (K : PySem.W.Frag) : Sp := Sp2 fun x y H Q E => ∃ (t b s : Addr) (m : Int), x = .ref t ∧ y = .int m ∧ Tape H t b s ∧ 0 ≤ m ∧ m ≤ 1000000 ∧ ∀ (v : V) (r : RuleD) (H' : Hp), Tape H' t b s → Kp [t, b] H H' → RuT H' v r → r.good → Q v H'
theorem g_Lrule {K : PySem.W.Frag} {t b s : Addr} {m : Int} {H : Hp} {Q : VK} {E : XK} (T : Tape H t b s) (h0 : 0 ≤ m) (h1 : m ≤ 1000000) (q : ∀ (v : V) (r : RuleD) (H' : Hp), Tape H' t b s → Kp [t, b] H H' → RuT H' v r → r.good → Q v H') : sp_Lrule K ([.ref t, .int m] ++ []) H Q E := ⟨_, _, rfl, t, b, s, m, rfl, rfl, T, h0, h1, q⟩
def sp_Lday (K : PySem.W.Frag) : Sp := Sp1 fun x H Q E => ∃ (t b s : Addr), x = .ref t ∧ Tape H t b s ∧ ∀ (i : Int) (H' : Hp), Tape H' t b s → Kp [t, b] H H' → 0 ≤ i → i ≤ 999989 → Q (.int i) H'
theorem g_Lday {K : PySem.W.Frag} {t b s : Addr} {H : Hp} {Q : VK} {E : XK} (T : Tape H t b s) (q : ∀ (i : Int) (H' : Hp), Tape H' t b s → Kp [t, b] H H' → 0 ≤ i → i ≤ 999989 → Q (.int i) H') : sp_Lday K ([.ref t] ++ []) H Q E := ⟨_, rfl, t, b, s, rfl, T, q⟩
theorem coins_ok {i : Int} (h0 : 0 ≤ i) (h1 : i ≤ 1000000000000) : isCoins (.int i) = true := by
  show (decide (0 ≤ i) && decide (i ≤ 1000000000000)) = true
  simp [h0, h1]
theorem nights_ok {i : Int} (h0 : 1 ≤ i) (h1 : i ≤ 14) : isNights (.int i) = true := by
  show (decide (1 ≤ i) && decide (i ≤ 14)) = true
  simp [h0, h1]
theorem deal_ok {m f : Int} (h0 : 1 ≤ m) (h1 : m ≤ 14) (h2 : 1 ≤ f) (h3 : f < m) : isDeal (.tuple [.int m, .int f]) = true := by
  show (isNights (.int m) && (decide (1 ≤ f) && decide (f < m))) = true
  rw [nights_ok h0 h1]
  simp [h2, h3]
theorem word9 {v : V} (h : v ∈ [V.str "price", .str "price", .str "price", .str "come", .str "go", .str "least", .str "most", .str "deal", .str "fee"]) : ∃ w : Wd, v = .str w.word := by
  simp only [List.mem_cons, List.not_mem_nil, or_false] at h
  rcases h with rfl | rfl | rfl | rfl | rfl | rfl | rfl | rfl | rfl
  · exact ⟨.price, rfl⟩
  · exact ⟨.price, rfl⟩
  · exact ⟨.price, rfl⟩
  · exact ⟨.come, rfl⟩
  · exact ⟨.go, rfl⟩
  · exact ⟨.least, rfl⟩
  · exact ⟨.most, rfl⟩
  · exact ⟨.deal, rfl⟩
  · exact ⟨.fee, rfl⟩
theorem g_inT {K : PySem.W.Frag} {H : Hp} {Q : VK} {p : Addr} {xs : List V} {x : V} {b : Bool} (h : H p = some (.tup xs)) (fx : flatV x = true) (fs : xs.all flatV = true) (e : inV x xs = b) (q : Q (.bl b) H) : rIn K false x (.ref p) H Q :=
  ⟨p, xs, rfl, .inr (SqT.of h), fx, fs, by rw [e, if_neg (by decide)]; exact q⟩
def t_Lcoins (K : PySem.W.Frag) : TS :=
  (tSeq (tAsg (tCall (sp_Ltake K) [] E0 (tCons (tVar 0) (tCons (tC (.int 10)) tNil))) (gName 1))
  (tSeq (tAsg (tOp rMul (tC (.int 10)) (tCall (sp_Ltake K) [] E0 (tCons (tVar 0) (tCons (tC (.int 10)) tNil)))) (gName 2))
  (tSeq (tAsg (tOp rAdd (tOp rMul (tCall (sp_Ltake K) [] E0 (tCons (tVar 0) (tCons (tOp rPow (tC (.int 10)) (tC (.int 6))) tNil))) (tOp rPow (tC (.int 10)) (tC (.int 6)))) (tCall (sp_Ltake K) [] E0 (tCons (tVar 0) (tCons (tOp rPow (tC (.int 10)) (tC (.int 6))) tNil)))) (gName 3))
  (tRet (tOp (rIxL K) (tLst (tCons (tVar 1) (tCons (tVar 2) (tCons (tOp rAdd (tVar 1) (tOp rMul (tC (.int 10)) (tVar 2))) (tCons (tVar 3) (tCons (tOp rPow (tC (.int 10)) (tC (.int 12))) tNil)))))) (tOp rDivW (tCall (sp_Ltake K) [] E0 (tCons (tVar 0) (tCons (tC (.int 9)) tNil))) (tC (.int 2))))))))
theorem pure_Lcoins {K : PySem.W.Frag} {x : V} {H : Hp} {Q : VK} {E : XK} (h : sp_Lcoins K [x] H Q E) : t_Lcoins K { nx := fun _ H' => Q .non H', rt := Q } [some x, none, none, none] H := by
  obtain ⟨x, e, t, b, s, rfl, T, q⟩ := h
  cases e
  unfold t_Lcoins
  walk_at "ss"
  rename_i a1 H1 a10 a11 T1 k1 a2 H2 a20 a21 T2 k2 a3 H3 a30 a31 T3 k3 a4 H4 a40 a41 T4 k4 p hp a5 H5 a50 a51 T5 k5 v hv
  refine q _ _ T5 (by walk_at "kp") (by omega) (by omega)
def t_Lday (K : PySem.W.Frag) : TS :=
  (tRet (tOp (rIxL K) (tLst (tCons (tC (.int 0)) (tCons (tCall (sp_Ltake K) [] E0 (tCons (tVar 0) (tCons (tC (.int 5)) tNil))) (tCons (tC (.int 40)) (tCons (tOp rAdd (tC (.int 999980)) (tCall (sp_Ltake K) [] E0 (tCons (tVar 0) (tCons (tC (.int 10)) tNil)))) (tCons (tCall (sp_Ltake K) [] E0 (tCons (tVar 0) (tCons (tC (.int 999980)) tNil))) tNil)))))) (tCall (sp_Ltake K) [] E0 (tCons (tVar 0) (tCons (tC (.int 5)) tNil)))))
theorem pure_Lday {K : PySem.W.Frag} {x : V} {H : Hp} {Q : VK} {E : XK} (h : sp_Lday K [x] H Q E) : t_Lday K { nx := fun _ H' => Q .non H', rt := Q } [some x] H := by
  obtain ⟨x, e, t, b, s, rfl, T, q⟩ := h
  cases e
  unfold t_Lday
  walk_at "ss"
  rename_i a1 H1 a10 a11 T1 k1 a2 H2 a20 a21 T2 k2 a3 H3 a30 a31 T3 k3 p hp a4 H4 a40 a41 T4 k4 v hv
  refine q _ _ T4 (by walk_at "kp") (by omega) (by omega)
def t_Lworth (K : PySem.W.Frag) : TS :=
  (tSeq (tIfS (tTest (tOp (rIn K false) (tVar 1) (tTup (tCons (tC (.str "come")) (tCons (tC (.str "go")) tNil)))))
  (tRet (tOp rEq (tCall (sp_Ltake K) [] E0 (tCons (tVar 0) (tCons (tC (.int 3)) tNil))) (tC (.int 0))))
  tNext)
  (tSeq (tIfS (tTest (tOp (rIn K false) (tVar 1) (tTup (tCons (tC (.str "least")) (tCons (tC (.str "most")) tNil)))))
  (tRet (tOp rAdd (tC (.int 1)) (tCall (sp_Ltake K) [] E0 (tCons (tVar 0) (tCons (tOp (rIxL K) (tLst (tCons (tC (.int 4)) (tCons (tC (.int 14)) tNil))) (tCall (sp_Ltake K) [] E0 (tCons (tVar 0) (tCons (tC (.int 2)) tNil)))) tNil)))))
  tNext)
  (tSeq (tIfS (tTest (tOp rEq (tVar 1) (tC (.str "deal"))))
  (tSeq (tAsg (tOp rAdd (tC (.int 2)) (tCall (sp_Ltake K) [] E0 (tCons (tVar 0) (tCons (tOp (rIxL K) (tLst (tCons (tC (.int 3)) (tCons (tC (.int 13)) tNil))) (tCall (sp_Ltake K) [] E0 (tCons (tVar 0) (tCons (tC (.int 2)) tNil)))) tNil)))) (gName 2))
  (tSeq (tAsg (tOp rAdd (tC (.int 1)) (tCall (sp_Ltake K) [] E0 (tCons (tVar 0) (tCons (tOp rSub (tVar 2) (tC (.int 1))) tNil)))) (gName 3))
  (tRet (tOp (rIxL K) (tLst (tCons (tTup (tCons (tVar 2) (tCons (tVar 3) tNil))) (tCons (tTup (tCons (tVar 2) (tCons (tVar 3) tNil))) (tCons (tC .non) tNil)))) (tCall (sp_Ltake K) [] E0 (tCons (tVar 0) (tCons (tC (.int 3)) tNil)))))))
  tNext)
  (tSeq (tAsg (tCall (sp_Lcoins K) [] E0 (tCons (tVar 0) tNil)) (gName 4))
  (tSeq (tIfS (tAnd (tTest (tOp rEq (tVar 1) (tC (.str "price")))) (tTest (tOp rEq (tCall (sp_Ltake K) [] E0 (tCons (tVar 0) (tCons (tC (.int 5)) tNil))) (tC (.int 0)))))
  (tRet (tC .non))
  tNext)
  (tRet (tVar 4)))))))
theorem pure_Lworth {K : PySem.W.Frag} {x y : V} {H : Hp} {Q : VK} {E : XK} (h : sp_Lworth K [x, y] H Q E) : t_Lworth K { nx := fun _ H' => Q .non H', rt := Q } [some x, some y, none, none, none] H := by
  obtain ⟨x, y, e, t, b, s, w, rfl, rfl, T, q⟩ := h
  cases e
  unfold t_Lworth
  have cg : w = .come ∨ w = .go ∨ w = .least ∨ w = .most ∨ w = .deal ∨ w = .price ∨ w = .fee := by cases w <;> simp
  walk_at "ss"
  rcases cg with rfl | rfl | rfl | rfl | rfl | rfl | rfl
  · refine g_inT upd_same rfl rfl (b := true) (by decide) ?_
    walk_at "ss"
    exact q _ (.bool _) _ (by walk_at "tp") (by walk_at "kp") (.bl _) rfl
  · refine g_inT upd_same rfl rfl (b := true) (by decide) ?_
    walk_at "ss"
    exact q _ (.bool _) _ (by walk_at "tp") (by walk_at "kp") (.bl _) rfl
  · refine g_inT upd_same rfl rfl (b := false) (by decide) ?_
    walk_at "ss"
    refine g_inT upd_same rfl rfl (b := true) (by decide) ?_
    walk_at "ss"
    exact q _ (.int _) _ (by walk_at "tp") (by walk_at "kp") (.int _) (nights_ok (by omega) (by omega))
  · refine g_inT upd_same rfl rfl (b := false) (by decide) ?_
    walk_at "ss"
    refine g_inT upd_same rfl rfl (b := true) (by decide) ?_
    walk_at "ss"
    exact q _ (.int _) _ (by walk_at "tp") (by walk_at "kp") (.int _) (nights_ok (by omega) (by omega))
  · refine g_inT upd_same rfl rfl (b := false) (by decide) ?_
    walk_at "ss"
    refine g_inT upd_same rfl rfl (b := false) (by decide) ?_
    walk_at "ss"
    with_reducible refine g_seq ?_
    walk_at "ss"
    refine ite_dt rfl ?_
    with_reducible refine g_seqA ?_
    walk_at "ss"
    rename_i q0 hq0 q1 hq1 q2 hq2 d1 H1 d10 d11 T1 k1 v1 hv1 d2 H2 d20 d21 T2 k2 d3 H3 d30 d31 T3 k3 p1 hp1 p2 hp2 p3 hp3 d4 H4 d40 d41 T4 k4 v hv
    have a1 : H4 p1 = some (.tup [.int (2 + d2), .int (1 + d3)]) := at_tk k4 (by walk_at "tp") (by walk_at "at")
    have a2 : H4 p2 = some (.tup [.int (2 + d2), .int (1 + d3)]) := at_tk k4 (by walk_at "tp") (by walk_at "at")
    rcases List.mem_cons.mp hv with rfl | hv
    · exact q _ (.tuple [.int (2 + d2), .int (1 + d3)]) _ T4 (by walk_at "kp") (td_tup a1 (.cons (.int _) (.cons (.int _) .nil))) (deal_ok (by omega) (by omega) (by omega) (by omega))
    rcases List.mem_cons.mp hv with rfl | hv
    · exact q _ (.tuple [.int (2 + d2), .int (1 + d3)]) _ T4 (by walk_at "kp") (td_tup a2 (.cons (.int _) (.cons (.int _) .nil))) (deal_ok (by omega) (by omega) (by omega) (by omega))
    rcases List.mem_cons.mp hv with rfl | hv
    · exact q _ .none _ T4 (by walk_at "kp") .non rfl
    · cases hv
  · refine g_inT upd_same rfl rfl (b := false) (by decide) ?_
    walk_at "ss"
    refine g_inT upd_same rfl rfl (b := false) (by decide) ?_
    walk_at "ss"
    with_reducible refine g_seq ?_
    walk_at "ss"
    refine ite_df (by decide) ?_
    walk_at "ss"
    refine ite_dt rfl ?_
    walk_at "ss"
    refine ite_b (fun z => ?_) fun z => ?_
    · walk_at "ss"
      exact q _ .none _ (by walk_at "tp") (by walk_at "kp") .non rfl
    · walk_at "ss"
      rename_i c H1 T1 k1 c0 c1 d H2 d0 d1 T2 k2
      exact q _ (.int _) _ (by walk_at "tp") (by walk_at "kp") (.int _) (by show (isNone (.int c) || isCoins (.int c)) = true; rw [coins_ok c0 c1]; rfl)
  · refine g_inT upd_same rfl rfl (b := false) (by decide) ?_
    walk_at "ss"
    refine g_inT upd_same rfl rfl (b := false) (by decide) ?_
    walk_at "ss"
    with_reducible refine g_seq ?_
    walk_at "ss"
    refine ite_df (by decide) ?_
    walk_at "ss"
    refine ite_df (by decide) ?_
    walk_at "ss"
    rename_i c H1 T1 k1 c0 c1
    exact q _ (.int _) _ (by walk_at "tp") (by walk_at "kp") (.int _) (coins_ok c0 c1)
def t_Lrule (K : PySem.W.Frag) : TS :=
  (tSeq (tAsg (tOp (rIxL K) (tLst (tCons (tC (.str "price")) (tCons (tC (.str "price")) (tCons (tC (.str "price")) (tCons (tC (.str "come")) (tCons (tC (.str "go")) (tCons (tC (.str "least")) (tCons (tC (.str "most")) (tCons (tC (.str "deal")) (tCons (tC (.str "fee")) tNil)))))))))) (tCall (sp_Ltake K) [] E0 (tCons (tVar 0) (tCons (tC (.int 9)) tNil)))) (gName 2))
  (tSeq (tAsg (tOp (rIxL K) (tLst (tCons (tOp rSub (tCall (sp_Ltake K) [] E0 (tCons (tVar 0) (tCons (tC (.int 12)) tNil))) (tC (.int 3))) (tCons (tCall (sp_Ltake K) [] E0 (tCons (tVar 0) (tCons (tC (.int 6)) tNil))) (tCons (tUn rNeg (tVar 1)) (tCons (tC (.int 0)) tNil))))) (tCall (sp_Ltake K) [] E0 (tCons (tVar 0) (tCons (tC (.int 4)) tNil)))) (gName 3))
  (tSeq (tAsg (tCB rMin2 (tCons (tOp rPow (tC (.int 10)) (tC (.int 6))) (tCons (tCB rMax2 (tCons (tC (.int 0)) (tCons (tOp rAdd (tVar 1) (tVar 3)) tNil))) tNil))) (gName 4))
  (tSeq (tAsg (tOp rAdd (tVar 4) (tOp (rIxL K) (tLst (tCons (tC (.int 0)) (tCons (tCall (sp_Ltake K) [] E0 (tCons (tVar 0) (tCons (tC (.int 3)) tNil))) (tCons (tCall (sp_Ltake K) [] E0 (tCons (tVar 0) (tCons (tC (.int 14)) tNil))) (tCons (tC (.int 60)) (tCons (tOp rPow (tC (.int 10)) (tC (.int 6))) tNil)))))) (tCall (sp_Ltake K) [] E0 (tCons (tVar 0) (tCons (tC (.int 5)) tNil))))) (gName 5))
  (tRet (tTup (tCons (tVar 2) (tCons (tVar 4) (tCons (tCB rMin2 (tCons (tOp rPow (tC (.int 10)) (tC (.int 6))) (tCons (tVar 5) tNil))) (tCons (tCall (sp_Lworth K) [] E0 (tCons (tVar 0) (tCons (tVar 2) tNil))) tNil))))))))))
theorem pure_Lrule {K : PySem.W.Frag} {x y : V} {H : Hp} {Q : VK} {E : XK} (h : sp_Lrule K [x, y] H Q E) : t_Lrule K { nx := fun _ H' => Q .non H', rt := Q } [some x, some y, none, none, none, none] H := by
  obtain ⟨x, y, e, t, b, s, m, rfl, rfl, T, h0, h1, q⟩ := h
  cases e
  unfold t_Lrule
  walk_at "ss"
  rename_i p1 hp1 a1 H1 a10 a11 T1 k1 wv hwv a2 H2 a20 a21 T2 k2 a3 H3 a30 a31 T3 k3 p2 hp2 a4 H4 a40 a41 T4 k4 v2 hv2 a5 H5 a50 a51 T5 k5 a6 H6 a60 a61 T6 k6 p3 hp3 a7 H7 a70 a71 T7 k7 v3 hv3
  obtain ⟨w, rfl⟩ := word9 hwv
  refine g_Lworth T7 fun v d H8 T8 k8 hv hf => ?_
  walk_at "ss"
  rename_i p4 hp4
  rw [mni, mxi, mni]
  refine q _ ⟨w, min 1000000 (max 0 (m + v2)), min 1000000 (min 1000000 (max 0 (m + v2)) + v3), d⟩ _ (by walk_at "tp") (by walk_at "kp") ⟨p4, v, rfl, upd_same, td_new hp4 hv⟩ ⟨?_, ?_, ?_, hf⟩
  · show 0 ≤ min 1000000 (max 0 (m + v2)); omega
  · show min 1000000 (max 0 (m + v2)) ≤ min 1000000 (min 1000000 (max 0 (m + v2)) + v3); omega
  · show min 1000000 (min 1000000 (max 0 (m + v2)) + v3) ≤ 1000000; omega
/-! YB: what is a day, a stretch, coins, nights. -/
open PySem PySem.Spec PyProof.Rows L2
theorem ats2 {H : Hp} {L : List Addr} {xs : List V} {ds : List PyData} (r : Ats H L xs ds) (h : xs.length = 2) : ∃ x y a b, xs = [x, y] ∧ ds = [a, b] ∧ At H L x a ∧ At H L y b := by
  match xs, ds, r, h with
  | [x, y], [a, b], .cons h1 (.cons h2 .nil), _ => exact ⟨x, y, a, b, rfl, rfl, h1, h2⟩
def t_is_whole (K : PySem.W.Frag) : TS :=
  (tRet (tAndV (tCB (rIsi K) (tCons (tVar 0) (tCons (tC (.ty "int")) tNil))) (tNotV (tCB (rIsi K) (tCons (tVar 0) (tCons (tC (.ty "bool")) tNil))))))
theorem pure_is_whole {K : PySem.W.Frag} {x : V} {H : Hp} {Q : VK} {E : XK} (h : sp_is_whole K [x] H Q E) : t_is_whole K { nx := fun _ H' => Q .non H', rt := Q } [some x] H := by
  obtain ⟨x, e, d, h, q⟩ := h
  cases e
  unfold t_is_whole
  cases h <;> (walk_at "ss"; exact q)
def t_is_day (K : PySem.W.Frag) : TS :=
  (tRet (tAndV (tCall (sp_is_whole K) [] E0 (tCons (tVar 0) tNil)) (tChain rLe rLe (tC (.int 0)) (tVar 0) (tC (.int 1000000)))))
theorem pure_is_day {K : PySem.W.Frag} {x : V} {H : Hp} {Q : VK} {E : XK} (h : sp_is_day K [x] H Q E) : t_is_day K { nx := fun _ H' => Q .non H', rt := Q } [some x] H := by
  obtain ⟨x, e, d, h, q⟩ := h
  cases e
  unfold t_is_day
  walk_at "ss"
  cases h with
  | int i =>
    refine ite_t rfl ?_
    walk_at "ss"
    refine ite_b (fun h1 => ?_) fun h1 => ?_
    · walk_at "ss"
      exact and_t h1 q
    · exact and_f h1 q
  | _ => exact q
def t_is_two_days (K : PySem.W.Frag) : TS :=
  (tRet (tAndV (tCB (rIsi K) (tCons (tVar 0) (tCons (tC (.ty "tuple")) tNil))) (tAndV (tOp rEq (tCB (rLen K) (tCons (tVar 0) tNil)) (tC (.int 2))) (tAndV (tCall (sp_is_day K) [] E0 (tCons (tOp (rIxT K) (tVar 0) (tC (.int 0))) tNil)) (tCall (sp_is_day K) [] E0 (tCons (tOp (rIxT K) (tVar 0) (tC (.int 1))) tNil))))))
theorem is2_no {ds : List PyData} (h : ds.length ≠ 2) : is2 (.tuple ds) = false := by
  match ds, h with
  | [], _ => rfl
  | [_], _ => rfl
  | [_, _], h => exact absurd rfl h
  | _ :: _ :: _ :: _, _ => rfl
theorem pure_is_two_days {K : PySem.W.Frag} {x : V} {H : Hp} {Q : VK} {E : XK} (h : sp_is_two_days K [x] H Q E) : t_is_two_days K { nx := fun _ H' => Q .non H', rt := Q } [some x] H := by
  obtain ⟨x, e, d, h, q⟩ := h
  cases e
  unfold t_is_two_days
  cases h with
  | tup n h r =>
    walk_at "ss"
    refine ite_b (fun h1 => ?_) fun h1 => ?_
    · rw [int_eq, decide_eq_true_eq] at h1
      obtain ⟨x, y, a, b, rfl, rfl, hx, hy⟩ := ats2 r (by omega)
      walk_at "ss"
      refine ite_b (fun h2 => ?_) fun h2 => ?_
      · walk_at "ss"
        exact and_t h2 q
      · exact and_f h2 q
    · rw [int_eq, decide_eq_false_iff_not] at h1
      rw [is2_no (fun z => h1 (by rw [Ats.len r, z]; rfl))] at q
      exact q
  | _ => walk_at "ss"; exact q
def t_is_stretch (K : PySem.W.Frag) : TS :=
  (tRet (tAndV (tCall (sp_is_two_days K) [] E0 (tCons (tVar 0) tNil)) (tOp rLe (tOp (rIxT K) (tVar 0) (tC (.int 0))) (tOp (rIxT K) (tVar 0) (tC (.int 1))))))
theorem isStr_no {d : PyData} (h : is2 d = false) : isStr d = false := by
  unfold isStr
  split
  · rename_i a b
    have h' : (isDay (.int a) && isDay (.int b)) = false := h
    cases e : isDay (.int a) with
    | false => rfl
    | true =>
      rw [e, Bool.true_and] at h'
      rw [h', Bool.false_and, Bool.and_false]
  · rfl
theorem isDay_int {d : PyData} (h : isDay d = true) : ∃ i, d = .int i := by
  cases d with
  | int i => exact ⟨i, rfl⟩
  | _ => cases h
theorem is2_ex {d : PyData} (h : is2 d = true) : ∃ a b, d = .tuple [.int a, .int b] ∧ isDay (.int a) = true ∧ isDay (.int b) = true := by
  unfold is2 at h
  split at h
  · obtain ⟨h1, h2⟩ := Bool.and_eq_true_iff.mp h
    obtain ⟨a, rfl⟩ := isDay_int h1
    obtain ⟨b, rfl⟩ := isDay_int h2
    exact ⟨a, b, rfl, h1, h2⟩
  · cases h
theorem pure_is_stretch {K : PySem.W.Frag} {x : V} {H : Hp} {Q : VK} {E : XK} (h : sp_is_stretch K [x] H Q E) : t_is_stretch K { nx := fun _ H' => Q .non H', rt := Q } [some x] H := by
  obtain ⟨x, e, d, h, q⟩ := h
  cases e
  unfold t_is_stretch
  walk_at "ss"
  refine ite_b (fun h1 => ?_) fun h1 => ?_
  · obtain ⟨a, b, rfl, h2, h3⟩ := is2_ex h1
    cases h with
    | tup n h r =>
      obtain ⟨x, y, _, _, rfl, e, hx, hy⟩ := ats2 r (Ats.len r)
      cases e
      cases hx
      cases hy
      walk_at "ss"
      exact and_t h3 (and_t h2 q)
  · rw [isStr_no h1] at q
    exact q
def t_is_coins (K : PySem.W.Frag) : TS :=
  (tRet (tAndV (tCall (sp_is_whole K) [] E0 (tCons (tVar 0) tNil)) (tChain rLe rLe (tC (.int 0)) (tVar 0) (tC (.int 1000000000000)))))
theorem pure_is_coins {K : PySem.W.Frag} {x : V} {H : Hp} {Q : VK} {E : XK} (h : sp_is_coins K [x] H Q E) : t_is_coins K { nx := fun _ H' => Q .non H', rt := Q } [some x] H := by
  obtain ⟨x, e, d, h, q⟩ := h
  cases e
  unfold t_is_coins
  walk_at "ss"
  cases h with
  | int i =>
    refine ite_t rfl ?_
    walk_at "ss"
    refine ite_b (fun h1 => ?_) fun h1 => ?_
    · walk_at "ss"
      exact and_t h1 q
    · exact and_f h1 q
  | _ => exact q
def t_is_nights (K : PySem.W.Frag) : TS :=
  (tRet (tAndV (tCall (sp_is_whole K) [] E0 (tCons (tVar 0) tNil)) (tChain rLe rLe (tC (.int 1)) (tVar 0) (tC (.int 14)))))
theorem pure_is_nights {K : PySem.W.Frag} {x : V} {H : Hp} {Q : VK} {E : XK} (h : sp_is_nights K [x] H Q E) : t_is_nights K { nx := fun _ H' => Q .non H', rt := Q } [some x] H := by
  obtain ⟨x, e, d, h, q⟩ := h
  cases e
  unfold t_is_nights
  walk_at "ss"
  cases h with
  | int i =>
    refine ite_t rfl ?_
    walk_at "ss"
    refine ite_b (fun h1 => ?_) fun h1 => ?_
    · walk_at "ss"
      exact and_t h1 q
    · exact and_f h1 q
  | _ => exact q
/-! YOs: shapes of rules' data. -/
open PySem PySem.Spec PyProof.Rows L2
theorem sh_word (w : Wd) (n : Nat) : Sh n (.str w.word) := sh_str (by cases w <;> decide +kernel) n
theorem sh_fits {w : Wd} {d : PyData} (h : fitsD w d = true) : Sh 1 d := by
  have coins : isCoins d = true → Sh 1 d := fun h => by
    obtain ⟨i, rfl, -⟩ := isCoins_b h
    exact sh_int _ _
  have nights : isNights d = true → Sh 1 d := fun h => by
    obtain ⟨i, rfl, -⟩ := isNights_b h
    exact sh_int _ _
  have bool : isBool d = true → Sh 1 d := fun h => by
    cases d with
    | bool b => exact sh_bl _ _
    | _ => cases h
  have none' : d = .none → Sh 1 d := fun e => by
    subst e
    exact sh_non _
  cases w with
  | price =>
    have h' : (isNone d || isCoins d) = true := h
    rcases Bool.or_eq_true_iff.mp h' with h | h
    · refine none' ?_
      cases d <;> first | rfl | cases h
    · exact coins h
  | come => exact bool h
  | go => exact bool h
  | least => exact nights h
  | most => exact nights h
  | fee => exact coins h
  | deal =>
    rcases isDeal_ex h with e | ⟨m, f, rfl, -⟩
    · exact none' e
    · refine sh_tup fun x hx => ?_
      simp only [List.mem_cons, List.not_mem_nil, or_false] at hx
      rcases hx with rfl | rfl
      · exact sh_int _ _
      · exact sh_int _ _
theorem sh_rule {r : RuleD} (h : r.good) : Sh 2 r.told := sh_tup fun x hx => by
  simp only [List.mem_cons, List.not_mem_nil, or_false] at hx
  rcases hx with rfl | rfl | rfl | rfl
  · exact sh_word _ _
  · exact sh_int _ _
  · exact sh_int _ _
  · exact sh_fits h.2.2.2
/-! YRl: lists of rules in the heap (second family). -/
open PySem PySem.Spec PyProof.Rows L2
/-- a list of rules' tuples stands at v -/
def RlAt (H : Hp) (v : V) (rs : List RuleD) : Prop := ∃ q xs, v = .ref q ∧ H q = some (.lst xs) ∧ Rus H xs rs
theorem same_kp {t b : Addr} {H G H' : Hp} (s : Same H G) (k : Kp [t, b] G H') (ft : Fr H t) (fb : Fr H b) : Same H H' := fun a o e => k a o (s a o e) fun m => by
  simp only [List.mem_cons, List.not_mem_nil, or_false] at m
  rcases m with rfl | rfl
  · rw [show H a = none from ft] at e; cases e
  · rw [show H a = none from fb] at e; cases e
/-! YLc: comprehensions whose items are lists or objects of their own. -/
open PySem PySem.Spec PyProof.Rows L2
theorem lc_own {J : It} {n : Nat} {G : Hp → Prop} {Y : Nat → Hp → V → Hp → Prop} (w : Walk J n G Y) {g : TG} {tt : TT} {te : TE} {vs : List Nat} {σ : L2.St} {H1 : Hp} {Qf : Addr → Hp → Prop} {β : Type} (R : Addr → Hp → V → β → Prop) (hS : ∀ D G G' v b, Same G G' → R D G v b → R D G' v b) (hP : ∀ D G zs o v b, G D = some (.lst zs) → R D G v b → R D (upd G D o) v b) (f : Nat → Option β) (hn : n < 100000) (hG : ∀ H, Same H1 H → G H)
    (hs : ∀ (D : Addr) i x H H' (N : Hp → Prop), Fr H1 D → i < n → Same H1 H → (∃ acc, H D = some (.lst acc)) → Y i H x H' → (∀ y b H4, f i = some b → Same H H4 → R D H4 y b → ∃ acc, H4 D = some (.lst acc) ∧ acc.length < sizeLine ∧ N (upd H4 D (.lst (acc ++ [y])))) → (∀ H4, f i = none → Same H H4 → N H4) →
      g x (wipe σ vs) H' fun σ2 H2 => wipe σ2 vs = wipe σ vs ∧ tt σ2 H2 fun b H3 =>
        if b = true then te σ2 H3 fun y H4 => ∃ acc, H4 D = some (.lst acc) ∧ acc.length < sizeLine ∧ N (upd H4 D (.lst (acc ++ [y]))) else N H3)
    (hd : ∀ D H' ys, Fr H1 D → Same H1 H' → H' D = some (.lst ys) → Paired (R D H') ys ((List.range n).filterMap f) → Qf D H') :
    ∀ D, Fr H1 D → ∃ W : Nat → Nat → Hp → Prop, (∃ m, W 0 m (upd H1 D (.lst []))) ∧ ∀ i m H, W i m H →
      (J.stop i H ∧ Qf D H) ∨ (J.go i H ∧ ∃ Nx : Hp → Prop, (∀ H', Nx H' → ∃ m', m' < m ∧ W (i + 1) m' H') ∧ ∀ x H', J.yld i H x H' → g x (wipe σ vs) H' fun σ2 H2 => wipe σ2 vs = wipe σ vs ∧ tt σ2 H2 fun b H3 =>
        if b = true then te σ2 H3 fun y H4 => ∃ acc, H4 D = some (.lst acc) ∧ acc.length < sizeLine ∧ Nx (upd H4 D (.lst (acc ++ [y]))) else Nx H3) := fun D hD => by
  refine lc_it w (fun i H => Same H1 H ∧ ∃ acc, H D = some (.lst acc) ∧ Paired (R D H) acc ((List.range i).filterMap f)) ⟨same_new hD, [], upd_same, .nil⟩ (fun i H _ h => hG H h.1) (fun i x H H' hi ⟨sm, acc, ha, hp⟩ y => ?_) fun H ⟨sm, acc, ha, hp⟩ => hd D H acc hD sm ha hp
  have hlen : acc.length ≤ i := by
    rw [Paired.length hp]
    exact Nat.le_trans (List.length_filterMap_le ..) (by rw [List.length_range]; omega)
  refine hs D i x H H' _ hD hi sm ⟨acc, ha⟩ y (fun y b H4 hb s r => ⟨acc, s _ _ ha, by rw [sizeLine_eq]; omega, sm_own hD (sm.trans s), acc ++ [y], upd_same, ?_⟩) fun H4 hb s => ⟨sm.trans s, acc, s _ _ ha, ?_⟩
  · rw [List.range_succ, List.filterMap_append]
    refine Paired.app (Paired.mapP hp fun _ _ q => hP _ _ _ _ _ _ (s _ _ ha) (hS _ _ _ _ _ s q)) ?_
    simp only [List.filterMap_cons, hb, List.filterMap_nil]
    exact .cons (hP _ _ _ _ _ _ (s _ _ ha) r) .nil
  · rw [List.range_succ, List.filterMap_append]
    simp only [List.filterMap_cons, hb, List.filterMap_nil, List.append_nil]
    exact Paired.mapP hp fun _ _ q => hS _ _ _ _ _ s q
/-- a book that stands apart from a list -/
def BkD (K : PySem.W.Frag) (D : Addr) (H : Hp) (v : V) (rs : List RuleD) : Prop := ∃ F, BookAt K H F v rs ∧ D ∉ F
/-- a list of rules' tuples, apart from a list -/
def RlD (D : Addr) (H : Hp) (v : V) (rs : List RuleD) : Prop := ∃ q xs, v = .ref q ∧ q ≠ D ∧ H q = some (.lst xs) ∧ Rus H xs rs
/-- a book that stands apart from a row of draws -/
def BkT (K : PySem.W.Frag) (t : Addr) (H : Hp) (v : V) (rs : List RuleD) : Prop := ∃ F, BookAt K H F v rs ∧ ∀ p ∈ F, p ∉ [t, t]
theorem BkT.kp {K : PySem.W.Frag} {t : Addr} {H H' : Hp} {v : V} {rs : List RuleD} (k : Kp [t, t] H H') (T : Tape H t t t) (h : BkT K t H v rs) : BkT K t H' v rs := let ⟨F, h, n⟩ := h; ⟨F, bk_kp k T n h, n⟩
def BkDT (K : PySem.W.Frag) (t : Addr) (D : Addr) (H : Hp) (v : V) (rs : List RuleD) : Prop := ∃ F, BookAt K H F v rs ∧ D ∉ F ∧ ∀ p ∈ F, p ∉ [t, t]
/-! YXf: an inn's full nights, its books, the best. -/
open PySem PySem.Spec PyProof.Rows L2
def sp_Inn_full (K : PySem.W.Frag) : Sp := Sp1 fun v H Q E => CFJ K ∧ ∃ M W m st pa, IsAt K H M W v m st pa ∧ ∀ p H', Same H H' → Fr H p → H' p = some (.lst ((fullL m st.tk).map V.int)) → Q (.ref p) H'
theorem g_jfull {K : PySem.W.Frag} {M W : List Addr} {v : V} {m : Int} {st : Ist} {pa : List Ist} {H : Hp} {Q : VK} {E : XK} (ci : CFJ K) (I : IsAt K H M W v m st pa) (q : ∀ p H', Same H H' → Fr H p → H' p = some (.lst ((fullL m st.tk).map V.int)) → Q (.ref p) H') : sp_Inn_full K (v :: ([] ++ [])) H Q E := ⟨_, rfl, ci, M, W, m, st, pa, I, q⟩
theorem g_dget2 {td ty tx : TE} {σ : L2.St} {H : Hp} {Q : VK} (h : td σ H fun x H1 => ∃ a, x = .ref a ∧ IsD H1 a ∧ ty σ H1 fun y H2 => tx σ H2 fun z H3 => ∃ o, DGet H3 a y o ∧ Q (o.getD z) H3) : tDGet2 td ty tx σ H Q := h
theorem dic_isD {H : Hp} {a : Addr} {F : Df} (h : DicI H a F) : IsD H a := let ⟨kvs, ks, h1, _⟩ := h; .inl ⟨kvs, .inl h1⟩
theorem g_cnt {H : Hp} {a : Addr} {l : List Int} {n : Int} {R : Option V → Prop} (h : DicI H a (cntF l)) (q : ∀ o : Option V, o.getD (.int 0) = .int (l.count n : Nat) → R o) : ∃ o, DGet H a (.int n) o ∧ R o := by
  obtain ⟨kvs, ks, h1, h2, h3, h4⟩ := h
  refine ⟨_, DGet.k (k := Sum.inl n) h1, q _ ?_⟩
  have h5 := h4 n
  unfold cntF at h5
  cases hv : valV kvs (.inl n) with
  | none =>
    rw [hv] at h5
    by_cases z : l.count n = 0
    · rw [z]
      rfl
    · rw [if_neg z] at h5
      exact h5.elim
  | some v =>
    rw [hv] at h5
    by_cases z : l.count n = 0
    · rw [if_pos z] at h5
      exact h5.elim
    · rw [if_neg z] at h5
      have h5 : Td H v (.int (l.count n : Nat)) := h5
      cases h5
      rfl
theorem g_iI2 {td : TE} {σ : L2.St} {H : Hp} {R : It → Hp → Prop} (h : td σ H fun x H1 => ∃ d o kvs, x = .ref d ∧ H1 d = some (.frz o (.dK kvs)) ∧ R (Iti d o kvs) H1) : iItems td σ H R := h
theorem g_iV2 {td : TE} {σ : L2.St} {H : Hp} {R : It → Hp → Prop} (h : td σ H fun x H1 => ∃ d o kvs, x = .ref d ∧ H1 d = some (.frz o (.dK kvs)) ∧ R (Itd d o kvs) H1) : iVals td σ H R := h
theorem fr_frz {H : Hp} {p d : Addr} {o w : HO} (hd : H d = some o) (h : Fr H p) : Fr (upd H d w) p := by
  show (upd H d w) p = none
  rw [upd_ne (fun z => by have h : H p = none := h; rw [z, hd] at h; cases h)]
  exact h
def rDictP (K : PySem.W.Frag) : List V → Hp → VK → Prop := fun xs H Q => ∃ (a : Addr) (ps : List Addr) (kvs : List (Key × V)), xs = [.ref a] ∧ SqL K H a (ps.map V.ref) ∧ Paired (fun p kv => SqT K H p [kV kv.1, kv.2]) ps kvs ∧
    ∀ p, H p = none → Q (.ref p) (upd H p (.dK (mergeK [] kvs)))
def yesK (ns : List Int) : Kvs := ns.map fun n => (.inl n, .bl true)
theorem yes_is (i : Int) : ∀ (ns : List Int) (acc : Kvs), (valV (mergeK acc (yesK ns)) (.inl i)).isSome = ((valV acc (.inl i)).isSome || decide (i ∈ ns))
  | [], acc => by simp [yesK, mergeK]
  | n :: ns, acc => by
    have e : mergeK acc (yesK (n :: ns)) = mergeK (putK acc (.inl n) (.bl true)) (yesK ns) := rfl
    rw [e, yes_is i ns, valV_put]
    by_cases z : i = n
    · subst z
      simp
    · rw [if_neg (fun e => z (Sum.inl.inj e))]
      simp [z]
theorem yes_ni {H : Hp} {p : Addr} {ns : List Int} (h : H p = some (.dK (mergeK [] (yesK ns)))) : NiAt H p ns := ⟨_, h, fun i => by rw [yes_is, valV_nil]; simp⟩
def YesAt (H : Hp) (v : V) (n : Int) : Prop := ∃ t, v = .ref t ∧ H t = some (.tup [.int n, .bl true])
theorem yes_tk {G G' : Hp} {v : V} {n : Int} (e : Tk G G') (h : YesAt G v n) : YesAt G' v n := let ⟨t, a, b⟩ := h; ⟨t, a, e _ _ b⟩
theorem yes_pairs {K : PySem.W.Frag} {H : Hp} : ∀ {ys : List V} {ns : List Int}, Paired (YesAt H) ys ns → ∃ ps : List Addr, ys = ps.map V.ref ∧ Paired (fun p kv => SqT K H p [kV kv.1, kv.2]) ps (yesK ns)
  | _, _, .nil => ⟨[], rfl, .nil⟩
  | _, _, .cons ⟨t, e, h⟩ r => by
    obtain ⟨ps, e1, h1⟩ := yes_pairs (K := K) r
    exact ⟨t :: ps, by rw [e, e1]; rfl, .cons (SqT.of h) h1⟩
/-- a book as if full nights were not sold, its parts -/
def FlO (K : PySem.W.Frag) (nd : Addr) (_ : Addr) (G : Hp) (v b : V) : Prop := ∃ a dx, v = .ref a ∧ G a = some (.ins (He.ga K "FullBook") dx [("beneath", b), ("nights", .ref nd)])
theorem g_mkFull0 {K : PySem.W.Frag} {E : XK} {H : Hp} {Q : VK} {b y : V} (cf : CFF K)
    (q : ∀ p dx H', Same H H' → Fr H p → H' p = some (.ins (He.ga K "FullBook") dx [("beneath", b), ("nights", y)]) → Q (.ref p) H') : rMake (He.ga K "FullBook") (sp_FullBook_init K) [] E [b, y] H Q := by
  intro a dx ha hd hne
  have h1 : upd H dx (.own a) a = none := by rw [upd_ne hne.symm]; exact ha
  have sm : Same H (upd (upd H dx (.own a)) a (.ins (He.ga K "FullBook") dx [])) := (same_new hd).trans (same_new h1)
  refine ⟨_, _, _, rfl, cf, a, dx, rfl, upd_same, fun H' k e => ⟨rfl, ?_⟩⟩
  have sm' : Same H H' := fun b o e => k _ _ (sm _ _ e) fun z => by
    rw [List.mem_singleton.mp z, ha] at e
    cases e
  exact q a dx H' sm' ha e
def QNow (K : PySem.W.Frag) (m : Int) (st : Ist) (H : Hp) (Q : VK) : Prop := ∀ (p : Addr) (xs : List V) (H' : Hp), Same H H' → Fr H p → H' p = some (.lst xs) → Paired (AkAt K H') xs (nowB m st) → Q (.ref p) H'
def sp_Inn_books_now (K : PySem.W.Frag) : Sp := Sp1 fun v H Q E => CFJ K ∧ CFF K ∧ ∃ M W m st pa, IsAt K H M W v m st pa ∧ QNow K m st H Q
theorem g_jnow {K : PySem.W.Frag} {M W : List Addr} {v : V} {m : Int} {st : Ist} {pa : List Ist} {H : Hp} {Q : VK} {E : XK} (ci : CFJ K) (cl : CFF K) (I : IsAt K H M W v m st pa) (q : QNow K m st H Q) : sp_Inn_books_now K (v :: ([] ++ [])) H Q E := ⟨_, rfl, ci, cl, M, W, m, st, pa, I, q⟩
def sp_Inn_best (K : PySem.W.Frag) : Sp := Sp2 fun v y H Q E => CFJ K ∧ CFF K ∧ CFR K ∧ CFB K ∧ ∃ (M W : List Addr) (m : Int) (st : Ist) (pa : List Ist) (a : Addr) (c g : Int), IsAt K H M W v m st pa ∧ y = .ref a ∧ SqT K H a [.int c, .int g] ∧ StayB c g ∧ QOff (nowB m st) c g H Q ∧ QHad (nowB m st) c g H Q
theorem g_jbest {K : PySem.W.Frag} {M W : List Addr} {v : V} {m : Int} {st : Ist} {pa : List Ist} {a : Addr} {c g : Int} {H : Hp} {Q : VK} {E : XK} (ci : CFJ K) (cl : CFF K) (cf : CFR K) (cb : CFB K) (I : IsAt K H M W v m st pa) (s : SqT K H a [.int c, .int g]) (b : StayB c g) (q1 : QOff (nowB m st) c g H Q) (q2 : QHad (nowB m st) c g H Q) : sp_Inn_best K (v :: ([.ref a] ++ [])) H Q E := ⟨_, _, rfl, ci, cl, cf, cb, M, W, m, st, pa, a, c, g, I, rfl, s, b, q1, q2⟩
def t_Inn_full (K : PySem.W.Frag) : TS :=
  (tSeq (tAsg tDNewK (gName 1))
  (tSeq (tLock (tFor (iVals (tFld K (tVar 0) "taken")) (gTup K 3 (gCons (gName 2) (gCons (gName 3) (gCons (gName 4) gNil))))
  (tFor (iList K (tCall (sp_nights_of K) [] E0 (tCons (tVar 2) tNil))) (gName 5)
  (sDPut (tVar 1) (tVar 5) (tOp rAdd (tDGet2 (tVar 1) (tVar 5) (tC (.int 0))) (tC (.int 1)))))))
  (tRet (tCB (rSortedI K) (tCons (tLockE (tLc (iItems (tVar 1)) (gTup K 2 (gCons (gName 5) (gCons (gName 6) gNil))) (tTest (tOp rEq (tVar 6) (tFld K (tVar 0) "many"))) (tVar 5) [5, 6])) tNil)))))
theorem pure_Inn_full {K : PySem.W.Frag} {v : V} {H : Hp} {Q : VK} {E : XK} (h : sp_Inn_full K [v] H Q E) : t_Inn_full K { nx := fun _ H' => Q .non H', rt := Q } [some v, none, none, none, none, none, none] H := by
  obtain ⟨v, e, ci, M, W, m, st, pa, ⟨a, dx, s, t, p, ps, rfl, rfl, I⟩, q⟩ := h
  cases e
  unfold t_Inn_full
  obtain ⟨kvs, ht, hk⟩ := I.taken
  have ok := I.ok
  walk_at "ss"
  refine fun d hd => ?_
  walk_at "ss"
  have sX : Same H (upd H d (.dK [])) := same_new hd
  have hX : (upd H d (.dK [])) d = some (.dK []) := upd_same
  have fd : Fr H d := hd
  generalize upd H d (.dK []) = X at sX hX ⊢
  have tX := sX _ _ ht
  refine ⟨t, _, tX, by trivial, fun od => ?_⟩
  have ntd : d ≠ t := (ne_of_none ht fd).symm
  have nat : a ≠ t := (I.apart (l := [a, s]) (r := p :: ps.flatMap fun x => [x.2.1, x.2.2]) rfl (by simp))
  have aX : (upd X t (.frz od (.dK kvs))) a = _ := at_ne nat (sX _ _ I.obj)
  have dX : (upd X t (.frz od (.dK kvs))) d = some (.dK []) := at_ne ntd hX
  have fX : (upd X t (.frz od (.dK kvs))) t = some (.frz od (.dK kvs)) := upd_same
  have hk1 : TksAt (upd X t (.frz od (.dK kvs))) [] kvs [] → True := fun _ => trivial
  have tkX : ∀ e ∈ kvs.zip st.tk, True := fun _ _ => trivial
  have rows : ∀ (i : Nat) (kv : Key × V), kvs[i]? = some kv → ∃ e w sx qx, st.tk[i]? = some e ∧ kv.2 = .ref w ∧ (upd X t (.frz od (.dK kvs))) w = some (.tup [.ref sx, .int e.coins, .ref qx]) ∧ (upd X t (.frz od (.dK kvs))) sx = some (.tup [.int e.c, .int e.g]) := fun i kv hi => by
    obtain ⟨e, he, -, w, sx, qx, ys, e2, h1, h2, -⟩ := Paired.getL hk hi
    exact ⟨e, w, sx, qx, he, e2, at_ne (fun z => by rw [z, ht] at h1; cases h1) (sX _ _ h1), at_ne (fun z => by rw [z, ht] at h2; cases h2) (sX _ _ h2)⟩
  have lk := Paired.length hk
  walk_at "ss"
  refine g_iV2 ?_
  refine g_jfld ci rfl aX (by decide) rfl ?_
  refine ⟨t, od, kvs, rfl, fX, ?_⟩
  obtain ⟨X1, eX1⟩ : ∃ X1, X1 = upd X t (.frz od (.dK kvs)) := ⟨_, rfl⟩
  have fdX : Fr (upd H t (.frz od (.dK kvs))) d := fr_frz ht fd
  have s0 : Same (upd H t (.frz od (.dK kvs))) X1 := fun b o e => by
    rw [eX1]
    by_cases z : b = t
    · rw [z, upd_same] at e ⊢
      exact e
    · rw [upd_ne z] at e
      exact at_ne z (sX _ _ e)
  rw [← eX1] at aX dX fX rows ⊢
  have rows' : ∀ (i : Nat) (kv : Key × V), kvs[i]? = some kv → ∃ e w sx qx, st.tk[i]? = some e ∧ kv.2 = .ref w ∧ (upd H t (.frz od (.dK kvs))) w = some (.tup [.ref sx, .int e.coins, .ref qx]) ∧ (upd H t (.frz od (.dK kvs))) sx = some (.tup [.int e.c, .int e.g]) := fun i kv hi => by
    obtain ⟨e, he, -, w, sx, qx, ys, e2, h1, h2, -⟩ := Paired.getL hk hi
    exact ⟨e, w, sx, qx, he, e2, at_ne (fun z => by rw [z, ht] at h1; cases h1) h1, at_ne (fun z => by rw [z, ht] at h2; cases h2) h2⟩
  have dD : DicI X1 d (cntF []) := by
    rw [cntF_nil]
    exact ⟨[], [], dX, rfl, List.nodup_nil, fun j => trivial⟩
  have nl := nightsT_len ok.stay
  have tl := ok.len
  have tF : (upd H t (.frz od (.dK kvs))) t = some (.frz od (.dK kvs)) := upd_same
  have aF : (upd H t (.frz od (.dK kvs))) a = _ := at_ne nat I.obj
  obtain ⟨G, eG⟩ : ∃ G, G = upd H t (.frz od (.dK kvs)) := ⟨_, rfl⟩
  rw [← eG] at s0 fdX rows' tF aF
  clear rows tkX hk1 sX hX tX
  refine for_it (walk_values (d := t) (o := od) (kvs := kvs)) (fun i σ H' => ∃ v2 v3 v4 v5, σ = [some (.ref a), some (.ref d), v2, v3, v4, v5, none] ∧ Same G H' ∧ DicI H' d (cntF (nightsT (st.tk.take i)))) ⟨_, _, _, _, rfl, s0, dD⟩ (fun i σ H' _ h => by obtain ⟨_, _, _, _, _, h, _⟩ := h; exact h _ _ tF) ?_ ?_
  · clear s0 dD dX fX aX
    rintro i x σ H' H2 hi ⟨v2, v3, v4, v5, rfl, sm, hD⟩ ⟨rfl, k, hx⟩
    obtain ⟨e, w, sx, qx, he, rfl, hw, hs⟩ := rows' i (k, x) hx
    have hw := sm _ _ hw
    have hs' := sm _ _ hs
    have em := List.mem_of_getElem? he
    obtain ⟨b1, b2, b3, b4⟩ := ok.stay e em
    walk_at "ss"
    rename_i np H3 s3 f3 h3
    have sm3 : Same G H3 := sm.trans s3
    have hD3 := dc_same s3 hD
    have dl := days_len e.c e.g
    have nT : nightsT (st.tk.take (i + 1)) = nightsT (st.tk.take i) ++ days e.c e.g := by
      rw [List.take_add_one, he]
      simp [nightsT]
    have nli : (nightsT (st.tk.take i)).length ≤ 14 * 64 := by
      have := nightsT_len (tk := st.tk.take i) fun e he => ok.stay e (List.mem_of_mem_take he)
      rw [List.length_take] at this
      omega
    refine for_list (K := K) (a := np) (xs := (days e.c e.g).map V.int) (fun j σ H' => ∃ v5, σ = [some (.ref a), some (.ref d), some (.ref sx), some (.int e.coins), some (.ref qx), v5, none] ∧ Same G H' ∧ H' np = some (.lst ((days e.c e.g).map V.int)) ∧ DicI H' d (cntF (nightsT (st.tk.take i) ++ (days e.c e.g).take j))) ⟨_, rfl, sm3, h3, by simpa using hD3⟩ (fun j σ H' _ h => by obtain ⟨_, _, _, h, _⟩ := h; exact SqL.of h) ?_ ?_
    · clear sm hw hs' hD sm3 hD3 s3 f3 h3
      rintro j x σ H' hj ⟨v5, rfl, sm, hnp, hD⟩
      obtain ⟨n, rfl, hn⟩ := map_get hj
      walk_at "ss"
      refine g_dget2 ?_
      walk_at "ss"
      refine ⟨d, rfl, dic_isD hD, ?_⟩
      walk_at "ss"
      refine g_cnt hD fun o eo => ?_
      rw [eo]
      walk_at "ss"
      refine cnt_put hD (by rw [List.length_append, List.length_take]; omega) fun H4 k4 tk4 hD4 => ?_
      refine ⟨_, rfl, sm_put fdX sm k4, k4 _ _ hnp (fun z => ?_), ?_⟩
      · obtain ⟨kv0, ks0, h0, -⟩ := hD
        rw [List.mem_singleton.mp z, h0] at hnp
        cases hnp
      · rw [List.take_add_one, hn]
        simpa [List.append_assoc] using hD4
    · rintro σ H' ⟨v5, rfl, sm, hnp, hD⟩
      walk_at "ss"
      refine ⟨_, _, _, _, rfl, sm, ?_⟩
      rw [nT]
      rwa [List.take_of_length_le (l := days e.c e.g) (by rw [List.length_map]; exact Nat.le_refl _)] at hD
  · clear s0 dD dX fX aX
    rintro σ H' ⟨v2, v3, v4, v5, rfl, sm, hD⟩
    rw [List.take_of_length_le (by omega)] at hD
    have tH := sm _ _ tF
    refine ⟨tH, ?_⟩
    have sG : Same H (upd H' t (.dK kvs)) := unlock_same ht (by rw [← eG]; exact sm)
    have hD2 : DicI (upd H' t (.dK kvs)) d (cntF (nightsT st.tk)) := by
      obtain ⟨kv0, ks0, h0, h1, h2, h3⟩ := hD
      have tk : Tk H' (upd H' t (.dK kvs)) := fun b ys e => at_ne (fun z => by rw [z, tH] at e; cases e) e
      exact ⟨kv0, ks0, at_ne ntd h0, h1, h2, fun i => (h3 i).tk tk⟩
    generalize upd H' t (.dK kvs) = H5 at sG hD2 ⊢
    clear hD sm tH rows' tF aF fdX eG eX1 G X1 X
    obtain ⟨kd, ks, h0, h1, h2, h3⟩ := hD2
    have hr := cnt_rows h1 h2 h3
    have mk : ∀ i, i ∈ ks ↔ i ∈ nightsT st.tk := fun i => (dic_keys h1 h3 i).trans (cntF_is _ i)
    have lks : ks.length ≤ 14 * 64 := by
      have := nodup_sub h2 fun i hi => (mk i).mp hi
      omega
    clear h3 h1
    walk_at "ss"
    refine ⟨d, _, h0, by trivial, fun od2 => ?_⟩
    obtain ⟨G, eG⟩ : ∃ G, G = upd H5 d (.frz od2 (.dK kd)) := ⟨_, rfl⟩
    have fG : G d = some (.frz od2 (.dK kd)) := by rw [eG]; exact upd_same
    have nda : a ≠ d := ne_of_none I.obj fd
    have aG : G a = some (inO K dx s t p m st.co) := by rw [eG]; exact at_ne nda (sG _ _ I.obj)
    rw [← eG]
    walk_at "ss"
    refine g_iI2 ?_
    refine ⟨_, rfl, d, od2, kd, rfl, fG, ?_⟩
    have gk : ∀ i : Nat, kd[i]? = (ks[i]?).map fun n => (Sum.inl n, V.int ((nightsT st.tk).count n : Nat)) := fun i => by rw [hr, List.getElem?_map]
    have lkd : kd.length = ks.length := by rw [hr, List.length_map]
    refine lc_w (walk_items (d := d) (o := od2) (kvs := kd)) (fun i => (ks[i]?).bind fun n => (if ((nightsT st.tk).count n : Int) = m then some (V.int n) else none)) (by omega) (fun H' s' => s' _ _ fG) ?_ ?_
    · rintro D i x H6 H7 N hD hi s6 ⟨T, x1, x2, rfl, hT, rfl, e1, e2⟩ hy hn
      dsimp only at e1 e2
      rw [gk] at e1 e2
      cases hk : ks[i]? with
      | none => rw [hk] at e1; cases e1
      | some n =>
        rw [hk] at e1 e2 hy hn
        cases e1
        cases e2
        replace hT : Fr H6 T := hT
        have a6 : (upd H6 T (.tup [kV (.inl n), .int ((nightsT st.tk).count n : Nat)])) a = _ := at_new hT (s6 _ _ aG)
        have s67 := same_new (H := H6) (o := .tup [kV (.inl n), .int ((nightsT st.tk).count n : Nat)]) hT
        walk_at "ss"
        refine g_jfld ci rfl a6 (by decide) rfl ?_
        dsimp only
        walk_at "ss"
        refine ite_d (fun z => ?_) fun z => ?_
        · walk_at "ss"
          exact hy _ _ (by simp at z; simp [z]; rfl) s67
        · exact hn _ (by simp at z; simp [z]) s67
    · intro D H6 hD s6 h6
      refine ⟨s6 _ _ fG, ?_⟩
      have nD : D ≠ d := by walk_at "ne"
      have sH : Same H (upd H6 d (.dK kd)) := sG.trans (unlock_same h0 (by rw [← eG]; exact s6))
      have hH : (upd H6 d (.dK kd)) D = _ := at_ne nD h6
      rw [lkd, range_flt ks (fun n => if ((nightsT st.tk).count n : Int) = m then some (V.int n) else none)] at hH
      have e1 : ks.filterMap (fun n => if ((nightsT st.tk).count n : Int) = m then some (V.int n) else none) = (ks.filter fun n => decide (((nightsT st.tk).count n : Int) = m)).map V.int :=
        flt_ints (fun n => ((nightsT st.tk).count n : Int) = m) ks
      rw [e1] at hH
      generalize upd H6 d (.dK kd) = H7 at sH hH ⊢
      walk_at "ss"
      refine ⟨D, _, rfl, SqL.of hH, fun ys p' pm so hp' => ?_⟩
      walk_at "ss"
      have e2 : ys = fullL m st.tk := up_eq (lt_le_nd so (pm.nodup_iff.mpr (h2.filter _))) (full_up m st.tk) fun x => by
        rw [pm.mem_iff, List.mem_filter, mk, full_mem]
        simp
      rw [← e2] at q
      exact q p' _ (sm_new hp' sH) (fr_of hp' sH) upd_same
def t_Inn_books_now (K : PySem.W.Frag) : TS :=
  (tSeq (tAsg (tCB (Y.rDictP K) (tCons (tLc (iList K (tMeth (He.ga K "Inn") "full" (sp_Inn_full K) [] E0 (tVar 0) tNil)) (gName 3) tYes (tTup (tCons (tVar 3) (tCons (tC (.bl true)) tNil))) [3]) tNil)) (gName 1))
  (tRet (tLockE (tLc (iVals (tFld K (tVar 0) "shelf")) (gName 2) tYes (tMake (He.ga K "FullBook") (sp_FullBook_init K) [] E0 (tCons (tVar 2) (tCons (tVar 1) tNil))) [2]))))
theorem pure_Inn_books_now {K : PySem.W.Frag} {v : V} {H : Hp} {Q : VK} {E : XK} (h : sp_Inn_books_now K [v] H Q E) : t_Inn_books_now K { nx := fun _ H' => Q .non H', rt := Q } [some v, none, none, none] H := by
  obtain ⟨v, e, ci, cl, M, W, m, st, pa, J, q⟩ := h
  cases e
  unfold t_Inn_books_now
  walk_at "ss"
  refine g_jrobj J (by decide) ?_
  walk_at "ss"
  refine g_jfull ci J fun fp H1 s1 f1 h1 => ?_
  have fl := full_len (m := m) J.ok.stay
  have tl := J.ok.len
  walk_at "ss"
  refine lc_r (walk_list (K := K) (a := fp) (xs := (fullL m st.tk).map V.int)) YesAt (fun _ _ _ _ k h => yes_tk k h) (fun i => (fullL m st.tk)[i]?) (by rw [List.length_map]; omega) (fun H' s => SqL.of (s _ _ h1)) ?_ ?_
  · rintro D i x H2 H3 N hD hi s2 ⟨rfl, hx⟩ hy hn
    obtain ⟨n, rfl, hn'⟩ := map_get hx
    walk_at "ss"
    rename_i T hT
    exact hy _ _ _ hn' (same_new hT) ⟨T, rfl, upd_same⟩
  intro D H2 ys hD s2 h2 hR
  have e0 : (List.range ((fullL m st.tk).map V.int).length).filterMap (fun i => (fullL m st.tk)[i]?) = fullL m st.tk := by
    have := range_flt (fullL m st.tk) some
    rw [List.length_map]
    simpa using this
  rw [e0] at hR
  obtain ⟨as, rfl, hP⟩ := yes_pairs (K := K) hR
  walk_at "ss"
  refine ⟨D, as, yesK (fullL m st.tk), rfl, SqL.of h2, hP, fun nd hnd => ?_⟩
  have s3 : Same H (upd H2 nd (.dK (mergeK [] (yesK (fullL m st.tk))))) := (s1.trans s2).trans (same_new hnd)
  have n3 := yes_ni (H := upd H2 nd (.dK (mergeK [] (yesK (fullL m st.tk))))) (p := nd) upd_same
  generalize upd H2 nd (.dK (mergeK [] (yesK (fullL m st.tk)))) = H3 at s3 n3 ⊢
  clear hP hR e0 h2 s2 hD h1 f1 s1 hnd
  obtain ⟨a, dx, s, t, p, ps, rfl, rfl, I⟩ := J
  obtain ⟨kvs, hs, hsh⟩ := I.shelf
  walk_at "ss"
  have hs3 := s3 _ _ hs
  refine ⟨s, _, hs3, by trivial, fun od => ?_⟩
  have nas : a ≠ s := I.apart (l := [a]) (r := t :: p :: ps.flatMap fun x => [x.2.1, x.2.2]) rfl (by simp)
  have aG : (upd H3 s (.frz od (.dK kvs))) a = _ := at_ne nas (s3 _ _ I.obj)
  have fG : (upd H3 s (.frz od (.dK kvs))) s = some (.frz od (.dK kvs)) := upd_same
  obtain ⟨G, eG⟩ : ∃ G, G = upd H3 s (.frz od (.dK kvs)) := ⟨_, rfl⟩
  rw [← eG] at aG fG ⊢
  have ls := sh_len hsh
  have few := I.ok.sh.few
  walk_at "ss"
  refine g_iV2 ?_
  refine g_jfld ci rfl aG (by decide) rfl ?_
  refine ⟨s, od, kvs, rfl, fG, ?_⟩
  refine lc_own (walk_values (d := s) (o := od) (kvs := kvs)) (FlO K nd) (fun D G G' v b s ⟨x, dx, e, h⟩ => ⟨x, dx, e, s _ _ h⟩) (fun D G zs o v b e ⟨x, dx, e', h⟩ => ⟨x, dx, e', at_ne (fun z => by rw [z, e] at h; cases h) h⟩) (fun i => kvs[i]?.map (·.2)) (by omega) (fun H' s' => s' _ _ fG) ?_ ?_
  · rintro D i x H5 H6 N hD hi s5 - ⟨rfl, k, hx⟩ hy hn
    walk_at "ss"
    refine g_mkFull0 cl fun p' dx' H7 s7 f7 h7 => ?_
    exact hy _ x _ (by rw [hx]; rfl) s7 ⟨p', dx', rfl, h7⟩
  · intro D H5 ys hD s5 h5 hR
    refine ⟨s5 _ _ fG, ?_⟩
    have nD : D ≠ s := by walk_at "ne"
    have sU : Same H3 (upd H5 s (.dK kvs)) := unlock_same hs3 (by rw [← eG]; exact s5)
    have sF : Same H (upd H5 s (.dK kvs)) := s3.trans sU
    have e1 : (List.range kvs.length).filterMap (fun i => kvs[i]?.map (·.2)) = kvs.map (·.2) := by
      have := range_flt (kvs.map (·.2)) some
      rw [List.length_map] at this
      simpa using this
    rw [e1] at hR
    have fD : Fr H D := by
      have : Fr H3 D := by
        show H3 D = none
        have hD : G D = none := hD
        rw [eG, upd_ne nD] at hD
        exact hD
      exact fr_of this s3
    walk_at "ss"
    refine q D ys _ sF fD (at_ne nD h5) ?_
    have main : ∀ {ks : Kvs} {sh : Shf} {ys : List V}, ShAt K H W ks sh → Paired (FlO K nd D H5) ys (ks.map (·.2)) → Paired (AkAt K (upd H5 s (.dK kvs))) ys (sh.map fun e => e.2 ++ fullR (fullL m st.tk)) := by
      intro ks sh ys hS
      induction hS generalizing ys with
      | nil => intro h; cases h; exact .nil
      | @cons kv e ks sh h t ih =>
        intro hp
        cases hp with
        | @cons y _ ys _ hy ht =>
          obtain ⟨x, dx', rfl, hx⟩ := hy
          obtain ⟨-, F, hB, -⟩ := h
          exact .cons ⟨false, cl, x, dx', kv.2, nd, e.2, fullL m st.tk, F, rfl, at_ne (fun z => by rw [z, s5 _ _ fG] at hx; cases hx) hx, bk_same sF hB, n3.same sU, rfl⟩ (ih ht)
    exact main hsh hR
def t_Inn_best (K : PySem.W.Frag) : TS :=
  (tRet (tCall (sp_best K) [] E0 (tCons (tMeth (He.ga K "Inn") "books_now" (sp_Inn_books_now K) [] E0 (tVar 0) tNil) (tCons (tVar 1) tNil))))
theorem pure_Inn_best {K : PySem.W.Frag} {v y : V} {H : Hp} {Q : VK} {E : XK} (h : sp_Inn_best K [v, y] H Q E) : t_Inn_best K { nx := fun _ H' => Q .non H', rt := Q } [some v, some y] H := by
  obtain ⟨v, y, e, ci, cl, cf, cb, M, W, m, st, pa, a, c, g, J, rfl, hS, hb, q1, q2⟩ := h
  cases e
  unfold t_Inn_best
  walk_at "ss"
  refine g_jrobj J (by decide) ?_
  walk_at "ss"
  refine g_jnow ci cl J fun p xs H' s1 f1 h1 hR => ?_
  have lB : (nowB m st).length ≤ 10 := by
    unfold nowB
    rw [List.length_map]
    exact J.ok.sh.few
  walk_at "ss"
  refine g_best cf cb ⟨SqL.of h1, hR, now_good J.ok, lB, Same.seqT s1 hS, hb⟩ (fun o p q H2 s2 f1 f2 e1 e2 => ?_) fun o p q r ys H2 s2 f1 f2 f3 n e1 e2 e3 e4 => ?_
  · walk_at "ss"
    exact q1 o p q H2 (s1.trans s2) (fr_of f1 s1) (fr_of f2 s1) e1 e2
  · walk_at "ss"
    exact q2 o p q r ys H2 (s1.trans s2) (fr_of f1 s1) (fr_of f2 s1) (fr_of f3 s1) n e1 e2 e3 e4
/-! YXw: an inn's deeds. -/
open PySem PySem.Spec PyProof.Rows L2
/-- what is of an inn behind a deed: its own, or new -/
def Nw (M W M' W' : List Addr) (H : Hp) : Prop := (∀ x ∈ M', x ∈ M ∨ Fr H x) ∧ ∀ x ∈ W', x ∈ W ∨ Fr H x
def DoneQ (K : PySem.W.Frag) (H : Hp) (M W : List Addr) (v : V) (m : Int) (st : Ist) (pa : List Ist) (R : Hp → Prop) : Prop := ∀ (H' : Hp) (M' W' : List Addr), Kp M H H' → IsAt K H' M' W' v m st pa → Nw M W M' W' H → R H'
theorem Nw.same {M W M' W' : List Addr} {H G : Hp} (s : Same H G) (n : Nw M W M' W' G) : Nw M W M' W' H := ⟨fun x h => (n.1 x h).imp id (Same.free s), fun x h => (n.2 x h).imp id (Same.free s)⟩
def takeS (m : Int) (st : Ist) (c g : Int) : Ist := ⟨st.sh, st.tk ++ [⟨st.co, c, g, coinsL (nowB m st) c g, cutL (nowB m st) c g⟩], st.co + 1⟩
def giveS (st : Ist) (k : Int) : Ist := ⟨st.sh, st.tk.filter fun (e : Stn) => decide (e.no ≠ k), st.co⟩
def layS (st : Ist) (n : Str) (rs : List RuleD) : Ist := ⟨putS st.sh n rs, st.tk, st.co⟩
theorem take_ok {m : Int} {st : Ist} {c g : Int} (o : IstOk st) (b : StayB c g) (l : st.co < 60) : IstOk (takeS m st c g) := by
  refine ⟨o.sh, ?_, fun e he => ?_, fun e he => ?_, ?_, ?_⟩
  · show ((st.tk ++ [(⟨st.co, c, g, coinsL (nowB m st) c g, cutL (nowB m st) c g⟩ : Stn)]).map (fun e => e.no)).Pairwise (· < ·)
    rw [List.map_append, List.pairwise_append]
    refine ⟨o.up, List.pairwise_singleton _ _, fun x hx y hy => ?_⟩
    obtain ⟨e, he, rfl⟩ := List.mem_map.mp hx
    have := (o.lt e he).2
    simp at hy
    rw [hy]
    exact this
  · rcases List.mem_append.mp he with he | he
    · have := o.lt e he
      exact ⟨this.1, by show e.no < st.co + 1; omega⟩
    · rw [List.mem_singleton.mp he]
      exact ⟨o.co0, by show st.co < st.co + 1; omega⟩
  · rcases List.mem_append.mp he with he | he
    · exact o.stay e he
    · rw [List.mem_singleton.mp he]; exact b
  · show 0 ≤ st.co + 1
    have := o.co0
    omega
  · show st.co + 1 ≤ 60
    omega
theorem give_ok {st : Ist} {k : Int} (o : IstOk st) : IstOk (giveS st k) := by
  refine ⟨o.sh, ?_, fun e he => o.lt e (List.mem_filter.mp he).1, fun e he => o.stay e (List.mem_filter.mp he).1, o.co0, o.coN⟩
  exact o.up.sublist (List.filter_sublist.map _)
theorem lay_ok {st : Ist} {n : Str} {rs : List RuleD} (o : IstOk st) (h : ShOk (putS st.sh n rs)) : IstOk (layS st n rs) := ⟨h, o.up, o.lt, o.stay, o.co0, o.coN⟩
theorem tks_get {H : Hp} {W : List Addr} : ∀ {kvs : Kvs} {tk : List Stn} (k : Int), TksAt H W kvs tk → (valV kvs (.inl k)).isSome = tk.any fun e => decide (e.no = k)
  | _, _, k, .nil => rfl
  | kv :: kvs, e :: tk, k, .cons ⟨h, _⟩ t => by
    rw [List.any_cons]
    by_cases z : e.no = k
    · rw [valV_pos (by rw [h, z])]
      simp [z]
    · rw [valV_neg (by rw [h]; exact fun e => z (Sum.inl.inj e)), tks_get k t]
      simp [z]
theorem tks_drop {H : Hp} {W : List Addr} : ∀ {kvs : Kvs} {tk : List Stn} (k : Int), TksAt H W kvs tk → TksAt H W (dropK kvs (.inl k)) (tk.filter fun e => decide (e.no ≠ k))
  | _, _, k, .nil => .nil
  | kv :: kvs, e :: tk, k, .cons h t => by
    unfold dropK
    rw [List.filter_cons, List.filter_cons]
    by_cases z : e.no = k
    · rw [if_neg (by rw [h.1]; simp [z]), if_neg (by simp [z])]
      exact tks_drop k t
    · rw [if_pos (by rw [h.1]; simp; exact z), if_pos (by simpa using z)]
      exact .cons h (tks_drop k t)
def rDictD : List V → Hp → VK → Prop := fun xs H Q => ∃ (a : Addr) (kvs : List (Key × V)), xs = [.ref a] ∧ Rd H a (.dK kvs) ∧ ∀ p, H p = none → Q (.ref p) (upd H p (.dK kvs))
theorem g_dictD {H : Hp} {Q : VK} {a : Addr} {kvs : List (Key × V)} (h : H a = some (.dK kvs)) (q : ∀ p, Fr H p → Q (.ref p) (upd H p (.dK kvs))) : rDictD [.ref a] H Q := ⟨a, kvs, rfl, .inl h, q⟩
/-- keep -/
def sp_Inn_keep (K : PySem.W.Frag) : Sp := Sp1 fun v H Q E => CFJ K ∧ ∃ M W m st pa, IsAt K H M W v m st pa ∧ pa.length ≤ 1000 ∧ DoneQ K H M W v m st (pa ++ [st]) (Q .non)
theorem g_jkeep {K : PySem.W.Frag} {M W : List Addr} {v : V} {m : Int} {st : Ist} {pa : List Ist} {H : Hp} {Q : VK} {E : XK} (ci : CFJ K) (I : IsAt K H M W v m st pa) (l : pa.length ≤ 1000) (q : DoneQ K H M W v m st (pa ++ [st]) (Q .non)) : sp_Inn_keep K (v :: ([] ++ [])) H Q E := ⟨_, rfl, ci, M, W, m, st, pa, I, l, q⟩
def sp_Inn_need_name (K : PySem.W.Frag) : Sp := Sp2 fun v y H Q E => CFJ K ∧ ∃ M W m st pa n, IsAt K H M W v m st pa ∧ y = .str n ∧ lookS st.sh n ≠ none ∧ Q .non H
theorem g_jneed {K : PySem.W.Frag} {M W : List Addr} {v : V} {m : Int} {st : Ist} {pa : List Ist} {n : Str} {H : Hp} {Q : VK} {E : XK} (ci : CFJ K) (I : IsAt K H M W v m st pa) (l : lookS st.sh n ≠ none) (q : Q .non H) : sp_Inn_need_name K (v :: ([.str n] ++ [])) H Q E := ⟨_, _, rfl, ci, M, W, m, st, pa, n, I, rfl, l, q⟩
def spx_Inn_need_name (K : PySem.W.Frag) : Sp := Sp2 fun v y H Q E => CFJ K ∧ exBare "NoName" K = true ∧ ∃ M W m st pa n, IsAt K H M W v m st pa ∧ y = .str n ∧ (lookS st.sh n ≠ none → Q .non H) ∧ (lookS st.sh n = none → E (.ref (He.ga K "NoName")) none H)
theorem gx_jneed {K : PySem.W.Frag} {M W : List Addr} {v : V} {m : Int} {st : Ist} {pa : List Ist} {n : Str} {H : Hp} {Q : VK} {E : XK} (ci : CFJ K) (cn : exBare "NoName" K = true) (I : IsAt K H M W v m st pa) (q : lookS st.sh n ≠ none → Q .non H) (x : lookS st.sh n = none → E (.ref (He.ga K "NoName")) none H) : spx_Inn_need_name K (v :: ([.str n] ++ [])) H Q E := ⟨_, _, rfl, ci, cn, M, W, m, st, pa, n, I, rfl, q, x⟩
def QRus (H : Hp) (rs : List RuleD) (Q : VK) : Prop := ∀ (p : Addr) (H' : Hp) (ys : List V), Same H H' → Fr H p → H' p = some (.lst ys) → Rus H' ys rs → Q (.ref p) H'
def sp_Inn_rules_of (K : PySem.W.Frag) : Sp := Sp2 fun v y H Q E => CFJ K ∧ CFR K ∧ CFB K ∧ ∃ M W m st pa n rs, IsAt K H M W v m st pa ∧ y = .str n ∧ lookS st.sh n = some rs ∧ QRus H rs Q
theorem g_jrules {K : PySem.W.Frag} {M W : List Addr} {v : V} {m : Int} {st : Ist} {pa : List Ist} {n : Str} {rs : List RuleD} {H : Hp} {Q : VK} {E : XK} (ci : CFJ K) (c : CFR K) (cb : CFB K) (I : IsAt K H M W v m st pa) (l : lookS st.sh n = some rs) (q : QRus H rs Q) : sp_Inn_rules_of K (v :: ([.str n] ++ [])) H Q E := ⟨_, _, rfl, ci, c, cb, M, W, m, st, pa, n, rs, I, rfl, l, q⟩
def spx_Inn_take (K : PySem.W.Frag) : Sp := Sp2 fun v y H Q E => CFJ K ∧ CFF K ∧ CFR K ∧ CFB K ∧ exInit "Off" "days" K = true ∧ ∃ (M W : List Addr) (m : Int) (st : Ist) (pa : List Ist) (a : Addr) (c g : Int), IsAt K H M W v m st pa ∧ y = .ref a ∧ H a = some (.tup [.int c, .int g]) ∧ StayB c g ∧ st.co < 60 ∧ pa.length ≤ 1000 ∧
  (offB (nowB m st) c g = true → ∀ (p dd : Addr) (H' : Hp), Same H H' → Fr H p → H' p = some (.lst ((shutL (nowB m st) c g).map V.int)) → H' dd = some (.xd [("days", .ref p)]) → E (.ref (He.ga K "Off")) (some dd) H') ∧
  (offB (nowB m st) c g = false → DoneQ K H M W v m (takeS m st c g) (pa ++ [st]) (Q (.int st.co)))
def spx_Inn_give_back (K : PySem.W.Frag) : Sp := Sp2 fun v y H Q E => CFJ K ∧ exBare "NoTaken" K = true ∧ ∃ (M W : List Addr) (m : Int) (st : Ist) (pa : List Ist) (k : Int), IsAt K H M W v m st pa ∧ y = .int k ∧ pa.length ≤ 1000 ∧
  ((st.tk.any fun e => decide (e.no = k)) = false → E (.ref (He.ga K "NoTaken")) none H) ∧ ((st.tk.any fun e => decide (e.no = k)) = true → DoneQ K H M W v m (giveS st k) (pa ++ [st]) (Q .non))
def t_Inn_keep (K : PySem.W.Frag) : TS :=
  (tDrop (tBM K "list" rAppend (tFld K (tVar 0) "past") (tCons (tTup (tCons (tCB Y.rDictD (tCons (tFld K (tVar 0) "shelf") tNil)) (tCons (tCB Y.rDictD (tCons (tFld K (tVar 0) "taken") tNil)) (tCons (tFld K (tVar 0) "coming") tNil)))) tNil)))
theorem pure_Inn_keep {K : PySem.W.Frag} {v : V} {H : Hp} {Q : VK} {E : XK} (h : sp_Inn_keep K [v] H Q E) : t_Inn_keep K { nx := fun _ H' => Q .non H', rt := Q } [some v] H := by
  obtain ⟨v, e, ci, M, W, m, st, pa, ⟨a, dx, s, t, p, ps, rfl, rfl, I⟩, l, q⟩ := h
  cases e
  unfold t_Inn_keep
  obtain ⟨kvs, hs, hsh⟩ := I.shelf
  obtain ⟨kt, ht, htk⟩ := I.taken
  walk_at "ss"
  refine g_jfld ci rfl I.obj (by decide) rfl ?_
  refine g_tyL (SqL.of I.past) ?_
  walk_at "ss"
  refine g_jfld ci rfl I.obj (by decide) rfl ?_
  walk_at "ss"
  refine g_dictD hs fun s' hs' => ?_
  walk_at "ss"
  refine g_jfld ci rfl (at_new hs' I.obj) (by decide) rfl ?_
  walk_at "ss"
  refine g_dictD (at_new hs' ht) fun t' ht' => ?_
  walk_at "ss"
  refine g_jfld ci rfl (at_new ht' (at_new hs' I.obj)) (by decide) rfl ?_
  walk_at "ss"
  rename_i q' hq'
  have e1 : (upd (upd H s' (.dK kvs)) t' (.dK kt)) s' = some (.dK kvs) := at_new ht' upd_same
  have sm3 : Same H (upd (upd (upd H s' (.dK kvs)) t' (.dK kt)) q' (.tup [.ref s', .ref t', .int st.co])) := sm_new hq' (sm_new ht' (same_new hs'))
  obtain ⟨G, eG⟩ : ∃ G, G = upd (upd (upd H s' (.dK kvs)) t' (.dK kt)) q' (.tup [.ref s', .ref t', .int st.co]) := ⟨_, rfl⟩
  have gs : G s' = some (.dK kvs) := by rw [eG]; exact at_new hq' e1
  have gt : G t' = some (.dK kt) := by rw [eG]; exact at_new hq' upd_same
  have gq : G q' = some (.tup [.ref s', .ref t', .int st.co]) := by rw [eG]; exact upd_same
  rw [← eG] at sm3 ⊢
  have fs : Fr H s' := hs'
  have ft : Fr H t' := fr_new ht'
  have ne : s' ≠ t' := ne_of_none (o := .dK kvs) upd_same ht'
  have sm' : Same H G := sm3
  have fn : ∀ {x : Addr}, Fr H x → x ∉ innF a s t p ps ++ W := fun {x} fx hx => by
    obtain ⟨o, e⟩ := I.in.known x hx
    rw [show H x = none from fx] at e
    cases e
  clear eG e1 hq' ht' hs' sm3
  have I2 := I.same sm'
  have pl := Paired.length I.pas
  walk_at "ss"
  refine g_append I2.past (by rw [List.length_map, sizeLine_eq]; omega) ?_
  refine q _ (innF a s t p (ps ++ [(q', s', t')])) W ?_ (I2.push gq gs (hsh.mut (Same.kp sm' []) muts_nil fun x _ => by simp) gt (tks_mut (Same.kp sm' []) muts_nil (fun x _ => by simp) htk) ne (fun z => fn fs (List.mem_append_left _ z)) (fun z => fn ft (List.mem_append_left _ z)) (fun z => fn fs (List.mem_append_right _ z)) (fun z => fn ft (List.mem_append_right _ z)) I.ok).in ⟨fun x hx => ?_, fun x hx => .inl hx⟩
  · exact fun x o e n => at_ne (fun z => n (by rw [z]; simp [innF])) (sm' _ _ e)
  · rw [show innF a s t p (ps ++ [(q', s', t')]) = innF a s t p ps ++ [s', t'] by simp [innF, List.flatMap_append]] at hx
    rcases List.mem_append.mp hx with hx | hx
    · exact .inl hx
    · simp at hx
      rcases hx with rfl | rfl
      · exact .inr fs
      · exact .inr ft
def t_Inn_need_name (K : PySem.W.Frag) : TS :=
  (tIfS (tB (tDNotIn (tVar 1) (tFld K (tVar 0) "shelf")))
  tNever
  tNext)
theorem pure_Inn_need_name {K : PySem.W.Frag} {v y : V} {H : Hp} {Q : VK} {E : XK} (h : sp_Inn_need_name K [v, y] H Q E) : t_Inn_need_name K { nx := fun _ H' => Q .non H', rt := Q } [some v, some y] H := by
  obtain ⟨v, y, e, ci, M, W, m, st, pa, n, ⟨a, dx, s, t, p, ps, rfl, rfl, I⟩, rfl, l, q⟩ := h
  cases e
  unfold t_Inn_need_name
  obtain ⟨kvs, hs, hsh⟩ := I.shelf
  walk_at "ss"
  refine g_jfld ci rfl I.obj (by decide) rfl ?_
  refine ⟨s, _, rfl, .inl ⟨kvs, .inr n, .inl hs, rfl, rfl⟩, _, rfl, ?_⟩
  rcases sh_get n hsh with ⟨e, -⟩ | ⟨rs, v, F, -, -, e, -⟩
  · exact absurd e l
  · rw [e]
    refine ite_f rfl ?_
    walk_at "ss"
    exact q
def x_Inn_need_name (K : PySem.W.Frag) (E : XK) : TS :=
  (tIfS (tB (tDNotIn (tVar 1) (tFld K (tVar 0) "shelf")))
  (tRaiseB K "NoName" (XW E))
  tNext)
theorem purex_Inn_need_name {K : PySem.W.Frag} {v y : V} {H : Hp} {Q : VK} {E : XK} (h : spx_Inn_need_name K [v, y] H Q E) : x_Inn_need_name K E { nx := fun _ H' => Q .non H', rt := Q } [some v, some y] H := by
  obtain ⟨v, y, e, ci, cn, M, W, m, st, pa, n, ⟨a, dx, s, t, p, ps, rfl, rfl, I⟩, rfl, q, x⟩ := h
  cases e
  unfold x_Inn_need_name
  obtain ⟨kvs, hs, hsh⟩ := I.shelf
  walk_at "ss"
  refine g_jfld ci rfl I.obj (by decide) rfl ?_
  refine ⟨s, _, rfl, .inl ⟨kvs, .inr n, .inl hs, rfl, rfl⟩, _, rfl, ?_⟩
  rcases sh_get n hsh with ⟨e1, e⟩ | ⟨rs, v, F, e1, -, e, -⟩
  · rw [e]
    refine ite_t rfl ?_
    walk_at "ss"
    exact ⟨cn, x e1⟩
  · rw [e]
    refine ite_f rfl ?_
    walk_at "ss"
    exact q (by rw [e1]; simp)
def t_Inn_rules_of (K : PySem.W.Frag) : TS :=
  (tSeq (tDrop (tMeth (He.ga K "Inn") "need_name" (sp_Inn_need_name K) [] E0 (tVar 0) (tCons (tVar 1) tNil)))
  (tRet (tMeth (He.ga K "Book") "rules" (sp_Book_rules K) [] E0 (tDGet (tFld K (tVar 0) "shelf") (tVar 1)) tNil)))
theorem pure_Inn_rules_of {K : PySem.W.Frag} {v y : V} {H : Hp} {Q : VK} {E : XK} (h : sp_Inn_rules_of K [v, y] H Q E) : t_Inn_rules_of K { nx := fun _ H' => Q .non H', rt := Q } [some v, some y] H := by
  obtain ⟨v, y, e, ci, c, cb, M, W, m, st, pa, n, rs, J, rfl, l, q⟩ := h
  cases e
  unfold t_Inn_rules_of
  walk_at "ss"
  refine g_jrobj J (by decide) ?_
  walk_at "ss"
  refine g_jneed ci J (by rw [l]; simp) ?_
  obtain ⟨a, dx, s, t, p, ps, rfl, rfl, I⟩ := J
  obtain ⟨kvs, hs, hsh⟩ := I.shelf
  walk_at "ss"
  refine g_jfld ci rfl I.obj (by decide) rfl ?_
  walk_at "ss"
  rcases sh_get n hsh with ⟨e, -⟩ | ⟨rs', v, F, e, hm, ev, b, -⟩
  · rw [e] at l; cases l
  · rw [e] at l
    cases l
    refine ⟨s, v, rfl, .inl ⟨kvs, .inr n, .inl hs, rfl, ev.symm⟩, ?_⟩
    refine g_robj b (by decide) ?_
    walk_at "ss"
    refine g_brules c cb b (by have := I.ok.sh.len _ hm; dsimp only at this; omega) fun p H' ys s1 f1 h1 R1 => ?_
    exact q p H' ys s1 f1 h1 R1
def x_Inn_give_back (K : PySem.W.Frag) (E : XK) : TS :=
  (tSeq (tIfS (tOr (tNot (tB (tCall (sp_is_whole K) [] E0 (tCons (tVar 1) tNil)))) (tB (tDNotIn (tVar 1) (tFld K (tVar 0) "taken"))))
  (tRaiseB K "NoTaken" (XW E))
  tNext)
  (tSeq (tDrop (tMeth (He.ga K "Inn") "keep" (sp_Inn_keep K) [] E0 (tVar 0) tNil))
  (tDrop (tDPop1 (tFld K (tVar 0) "taken") (tVar 1)))))
theorem purex_Inn_give_back {K : PySem.W.Frag} {v y : V} {H : Hp} {Q : VK} {E : XK} (h : spx_Inn_give_back K [v, y] H Q E) : x_Inn_give_back K E { nx := fun _ H' => Q .non H', rt := Q } [some v, some y] H := by
  obtain ⟨v, y, e, ci, cn, M, W, m, st, pa, k, ⟨a, dx, s, t, p, ps, rfl, rfl, I⟩, rfl, lp, x, q⟩ := h
  cases e
  unfold x_Inn_give_back
  obtain ⟨kt, ht, htk⟩ := I.taken
  have ev := tks_get k htk
  with_reducible refine g_seq ?_
  walk_at "ss"
  refine ite_f rfl ?_
  walk_at "ss"
  refine g_jfld ci rfl I.obj (by decide) rfl ?_
  refine ⟨t, _, rfl, .inl ⟨kt, .inl k, .inl ht, rfl, rfl⟩, _, rfl, ?_⟩
  rw [ev]
  cases hh : (st.tk.any fun e => decide (e.no = k)) with
  | false =>
    refine ite_t rfl ?_
    exact ⟨cn, x hh⟩
  | true =>
    refine ite_f rfl ?_
    walk_at "ss"
    refine g_jrobj I.in (by decide) ?_
    walk_at "ss"
    refine g_jkeep ci I.in lp fun H3 M3 W3 k3 J3 n3 => ?_
    walk_at "ss"
    obtain ⟨a4, dx4, s4, t4, p4, ps4, ea, rfl, I4⟩ := J3
    cases ea
    obtain ⟨kt4, ht4, htk4⟩ := I4.taken
    have ev4 := tks_get k htk4
    rw [hh] at ev4
    obtain ⟨w, hw⟩ := Option.isSome_iff_exists.mp ev4
    refine g_jfld ci rfl I4.obj (by decide) rfl ?_
    refine ⟨t4, rfl, .inl ⟨_, .inl ht4⟩, ?_⟩
    walk_at "ss"
    refine ⟨kt4, .inl k, w, ht4, rfl, hw, ?_⟩
    have ntn : ∀ x ∈ [a, s4] ++ p4 :: ps4.flatMap (fun x => [x.2.1, x.2.2]), x ≠ t4 := fun x hx => I4.apart (l := [a, s4]) rfl hx
    have mu := I4.muts (L := [t4]) fun x hx => by rw [List.mem_singleton.mp hx]; simp [innF]
    have kk : Kp [t4] H3 (upd H3 t4 (.dK (dropK kt4 (.inl k)))) := kp_upd (by simp)
    have nW : ∀ x ∈ W3, x ∉ [t4] := fun x hx z => I4.off x hx (by rw [List.mem_singleton.mp z]; simp [innF])
    obtain ⟨kv4, hs4, hsh4⟩ := I4.shelf
    refine q hh _ (innF a s4 t4 p4 ps4) W3 (fun b o e nb => ?_) (I4.chg (st' := giveS st k) (fun b o e nb => kk _ _ e fun z => nb (by rw [List.mem_singleton.mp z]; simp)) (fun x hx => hx) I4.off (fun x hx => ?_) (at_ne (ntn _ (by simp)) I4.obj) ⟨kv4, at_ne (ntn _ (by simp)) hs4, hsh4.mut kk mu nW⟩ ⟨_, upd_same, tks_mut kk mu nW (tks_drop k htk4)⟩ (give_ok I.ok)).in n3
    · have e3 := k3 _ _ e nb
      refine at_ne (fun z => ?_) e3
      rcases n3.1 t4 (by simp [innF]) with h | h
      · exact nb (z ▸ h)
      · rw [z, show H t4 = none from h] at e
        cases e
    · obtain ⟨o, e⟩ := I4.known x hx
      exact ⟨o, kk _ _ e (nW x hx)⟩
def x_Inn_take (K : PySem.W.Frag) (E : XK) : TS :=
  (tSeq (tAsg (tMeth (He.ga K "Inn") "best" (sp_Inn_best K) [] E0 (tVar 0) (tCons (tVar 1) tNil)) (gName 2))
  (tSeq (tIfS (tTest (tOp rEq (tOp (rIxT K) (tVar 2) (tC (.int 0))) (tC (.str "off"))))
  (tRaiseI K "Off" "days" (XW E) (tOp (rIxT K) (tVar 2) (tC (.int 1))))
  tNext)
  (tSeq (tDrop (tMeth (He.ga K "Inn") "keep" (sp_Inn_keep K) [] E0 (tVar 0) tNil))
  (tSeq (tAsg (tFld K (tVar 0) "coming") (gName 3))
  (tSeq (sDPut (tFld K (tVar 0) "taken") (tVar 3) (tTup (tCons (tVar 1) (tCons (tOp (rIxT K) (tVar 2) (tC (.int 1))) (tCons (tOp (rIxT K) (tVar 2) (tC (.int 2))) tNil)))))
  (tSeq (sFld K (tVar 0) (tOp rAdd (tVar 3) (tC (.int 1))) "coming")
  (tRet (tVar 3))))))))
theorem purex_Inn_take {K : PySem.W.Frag} {v y : V} {H : Hp} {Q : VK} {E : XK} (h : spx_Inn_take K [v, y] H Q E) : x_Inn_take K E { nx := fun _ H' => Q .non H', rt := Q } [some v, some y, none, none] H := by
  obtain ⟨v, y, e, ci, cl, cf, cb, cn, M, W, m, st, pa, sa, c, g, J, rfl, hsa, hb, hco, lp, x, q⟩ := h
  cases e
  unfold x_Inn_take
  walk_at "ss"
  refine g_jrobj J (by decide) ?_
  walk_at "ss"
  refine g_jbest ci cl cf cb J (SqT.of hsa) hb (fun o p1 q1 H1 s1 f1 f2 e1 e2 => ?_) fun o p1 q1 r1 ys H1 s1 f1 f2 f3 n12 e1 e2 e3 e4 => ?_
  · walk_at "ss"
    dsimp only [List.set]
    with_reducible refine g_seq ?_
    walk_at "ss"
    refine ite_dt rfl ?_
    refine g_tRaiseI cn ?_
    walk_at "ss"
    refine g_raiseI cn fun dd hdd => x o q1 dd _ (s1.trans (same_new hdd)) f2 (at_new hdd e2) upd_same
  · walk_at "ss"
    dsimp only [List.set]
    with_reducible refine g_seq ?_
    walk_at "ss"
    refine ite_df (by decide) ?_
    walk_at "ss"
    have J1 := J.same s1
    refine g_jrobj J1 (by decide) ?_
    walk_at "ss"
    refine g_jkeep ci J1 lp fun H3 M3 W3 k3 J3 n3 => ?_
    walk_at "ss"
    have mM := J1.muts
    have tk3 := tk_mut k3 mM
    have e1' := tk3 _ _ e1
    have hsa' := tk3 _ _ (s1 _ _ hsa)
    have fnm : ∀ x, Fr H x → x ∉ M ++ W := fun x fx hx => by
      obtain ⟨o, e⟩ := J.known x hx
      rw [show H x = none from fx] at e
      cases e
    have nq : q1 ∉ M := fun z => fnm q1 f2 (List.mem_append_left _ z)
    have e2' := k3 _ _ e2 nq
    have e3' := tds_tk tk3 e3
    have nq3 : q1 ∉ M3 := fun z => by
      rcases n3.1 q1 z with h | h
      · exact nq h
      · rw [show H1 q1 = none from h] at e2
        cases e2
    have M3f : ∀ x ∈ M3, x ∈ M ∨ Fr H1 x := n3.1
    obtain ⟨a4, dx4, s4, t4, p4, ps4, rfl, rfl, I4⟩ := J3
    obtain ⟨kt4, ht4, htk4⟩ := I4.taken
    obtain ⟨kv4, hs4, hsh4⟩ := I4.shelf
    have tl := I4.ok.len
    have lk := Paired.length htk4
    refine g_jfld ci rfl I4.obj (by decide) rfl ?_
    walk_at "ss"
    dsimp only [List.set]
    with_reducible refine g_seq ?_
    walk_at "ss"
    try refine g_dputX ?_
    walk_at "ss"
    rename_i w hw
    refine g_jfld ci rfl (at_new hw I4.obj) (by decide) rfl ?_
    walk_at "ss"
    have nwt : t4 ≠ w := ne_of_none ht4 hw
    refine ⟨t4, _, rfl, DPut.k (k := .inl st.co) (at_new hw ht4) (by rw [sizeLine_eq]; omega), ?_⟩
    obtain ⟨G, eG⟩ : ∃ G, G = upd (upd H3 w (.tup [.ref sa, .int (coinsL (nowB m st) c g), .ref q1])) t4 (.dK (putK kt4 (.inl st.co) (.ref w))) := ⟨_, rfl⟩
    have nta : a4 ≠ t4 := I4.apart (l := [a4, s4]) rfl (by simp)
    have nts : s4 ≠ t4 := I4.apart (l := [a4, s4]) rfl (by simp)
    have aG : G a4 = some (inO K dx4 s4 t4 p4 m st.co) := by rw [eG]; exact at_ne nta (at_new hw I4.obj)
    rw [← eG]
    dsimp only
    with_reducible refine g_seq ?_
    refine g_sFld ?_
    walk_at "ss"
    refine g_jset ci aG (by decide) (show (5 : Nat) < 1000 by decide) ?_
    dsimp only
    walk_at "ss"
    obtain ⟨G2, eG2⟩ : ∃ G2, G2 = upd G a4 (.ins (He.ga K "Inn") dx4 (putF "coming" (.int (st.co + 1)) [("many", .int m), ("shelf", .ref s4), ("taken", .ref t4), ("coming", .int st.co), ("past", .ref p4)])) := ⟨_, rfl⟩
    have a2 : G2 a4 = some (inO K dx4 s4 t4 p4 m (st.co + 1)) := by rw [eG2]; exact upd_same
    have nas : s4 ≠ a4 := I4.apart (l := []) rfl (by simp)
    have kk : Kp [a4, s4, t4] H3 G2 := fun b o e n => by
      have n1 : b ≠ a4 := fun z => n (by simp [z])
      have n2 : b ≠ t4 := fun z => n (by simp [z])
      rw [eG2, eG]
      exact at_ne n1 (at_ne n2 (at_new hw e))
    have gs : G2 s4 = some (.dK kv4) := by rw [eG2, eG]; exact at_ne nas (at_ne nts (at_new hw hs4))
    have gt : G2 t4 = some (.dK (putK kt4 (.inl st.co) (.ref w))) := by rw [eG2, eG]; exact at_ne nta.symm upd_same
    have nwa : w ≠ a4 := (ne_of_none I4.obj hw).symm
    have gw : G2 w = some (.tup [.ref sa, .int (coinsL (nowB m st) c g), .ref q1]) := by rw [eG2, eG]; exact at_ne nwa (at_ne nwt.symm upd_same)
    have mu := I4.muts (L := [a4, s4, t4]) fun x hx => by
      simp at hx
      rcases hx with rfl | rfl | rfl <;> simp [innF]
    have tkk := tk_mut kk mu
    have offW : ∀ x ∈ W3 ++ [q1], x ∉ innF a4 s4 t4 p4 ps4 := fun x hx => by
      rcases List.mem_append.mp hx with hx | hx
      · exact I4.off x hx
      · rw [List.mem_singleton.mp hx]; exact nq3
    have nW : ∀ x ∈ W3, x ∉ [a4, s4, t4] := fun x hx z => I4.off x hx (by
      simp at z
      rcases z with rfl | rfl | rfl <;> simp [innF])
    have nqs : q1 ∉ [a4, s4, t4] := fun z => nq3 (by
      simp at z
      rcases z with rfl | rfl | rfl <;> simp [innF])
    have ep : putK kt4 (.inl st.co) (.ref w) = kt4 ++ [(.inl st.co, .ref w)] := by
      unfold putK
      rw [if_neg]
      rw [valV_any, tks_get st.co htk4, Bool.not_eq_true, List.any_eq_false]
      intro e he
      have := (I4.ok.lt e he).2
      simp
      omega
    have Hk : Kp M H G2 := fun b o e n => by
      have e1 := s1 _ _ e
      have e3 := k3 _ _ e1 n
      refine kk _ _ e3 fun z => ?_
      have zi : b ∈ innF a4 s4 t4 p4 ps4 := by
        simp at z
        rcases z with rfl | rfl | rfl <;> simp [innF]
      rcases n3.1 b zi with h | h
      · exact n h
      · rw [show H1 b = none from h] at e1
        cases e1
    rw [← eG2]
    refine q o G2 (innF a4 s4 t4 p4 ps4) (W3 ++ [q1]) Hk (I4.chg (st' := takeS m st c g) kk (fun x hx => List.mem_append_left _ hx) offW (fun x hx => ?_) a2 ⟨kv4, gs, (hsh4.mut kk mu nW).wide fun x hx => List.mem_append_left _ hx⟩ ⟨_, gt, ?_⟩ (take_ok I4.ok hb hco)).in ⟨fun x hx => (n3.1 x hx).imp id (Same.free s1), fun x hx => ?_⟩
    · rcases List.mem_append.mp hx with hx | hx
      · obtain ⟨o, e⟩ := I4.known x hx
        exact ⟨o, kk _ _ e (nW x hx)⟩
      · rw [List.mem_singleton.mp hx]
        exact ⟨_, kk _ _ e2' nqs⟩
    · rw [ep]
      exact Paired.app (tks_wide (fun x hx => List.mem_append_left _ hx) (tks_mut kk mu nW htk4)) (.cons ⟨rfl, w, sa, q1, ys, rfl, gw, tkk _ _ hsa', kk _ _ e2' nqs, tds_tk tkk e3', by simp⟩ .nil)
    · rcases List.mem_append.mp hx with hx | hx
      · exact (n3.2 x hx).imp id (Same.free s1)
      · rw [List.mem_singleton.mp hx]
        exact .inr f2
/-! YXs: what stands in an inn, its rooms. -/
open PySem PySem.Spec PyProof.Rows L2 LiI
/-- a row of what stands: its list a new one -/
def SdAt (D : Addr) (H : Hp) (v : V) (e : Stn) : Prop := ∃ w s q ys, v = .ref w ∧ H w = some (.tup [.int e.no, .ref s, .int e.coins, .ref q]) ∧ H s = some (.tup [.int e.c, .int e.g]) ∧ H q = some (.lst ys) ∧ Tds H ys (e.cut.map ptD) ∧ q ≠ D
/-- the same, with what is new told -/
def SdFr (H0 : Hp) (D : Addr) (H : Hp) (v : V) (e : Stn) : Prop := ∃ w s q ys, v = .ref w ∧ H w = some (.tup [.int e.no, .ref s, .int e.coins, .ref q]) ∧ H s = some (.tup [.int e.c, .int e.g]) ∧ H q = some (.lst ys) ∧ Tds H ys (e.cut.map ptD) ∧ q ≠ D ∧ Fr H0 q
theorem sf_same {H0 : Hp} {D : Addr} {G G' : Hp} {v : V} {e : Stn} (s : Same G G') (h : SdFr H0 D G v e) : SdFr H0 D G' v e := let ⟨w, x, q, ys, a, b, c, d, t, n, f⟩ := h; ⟨w, x, q, ys, a, s _ _ b, s _ _ c, s _ _ d, tds_same s t, n, f⟩
theorem sf_put {H0 : Hp} {D : Addr} {G : Hp} {zs : List V} {o : HO} {v : V} {e : Stn} (hD : G D = some (.lst zs)) (h : SdFr H0 D G v e) : SdFr H0 D (upd G D o) v e := by
  obtain ⟨w, x, q, ys, a, b, c, d, t, n, f⟩ := h
  exact ⟨w, x, q, ys, a, at_ne (fun z => by rw [z, hD] at b; cases b) b, at_ne (fun z => by rw [z, hD] at c; cases c) c, at_ne n d, tds_put hD t, n, f⟩
def QStand (st : Ist) (H : Hp) (Q : VK) : Prop := ∀ (D : Addr) (xs : List V) (H' : Hp), Same H H' → Fr H D → H' D = some (.lst xs) → Paired (SdFr H D H') xs st.tk → Q (.ref D) H'
def sp_Inn_standing (K : PySem.W.Frag) : Sp := Sp1 fun v H Q E => CFJ K ∧ ∃ M W m st pa, IsAt K H M W v m st pa ∧ QStand st H Q
theorem g_jstand {K : PySem.W.Frag} {M W : List Addr} {v : V} {m : Int} {st : Ist} {pa : List Ist} {H : Hp} {Q : VK} {E : XK} (ci : CFJ K) (I : IsAt K H M W v m st pa) (q : QStand st H Q) : sp_Inn_standing K (v :: ([] ++ [])) H Q E := ⟨_, rfl, ci, M, W, m, st, pa, I, q⟩
/-- rows (number, room) -/
def RmAt (H : Hp) (v : V) (p : Int × Int) : Prop := ∃ w, v = .ref w ∧ H w = some (.tup [.int p.1, .int p.2])
abbrev stayL (tk : List Stn) : List Pr := tk.map fun e => (e.c, e.g)
def QRooms (st : Ist) (H : Hp) (Q : VK) : Prop := ∀ (D : Addr) (xs : List V) (F : List Nat) (H' : Hp), Same H H' → Fr H D → H' D = some (.lst xs) → DealtF (stayL st.tk) F → Paired (RmAt H') xs ((st.tk.map (·.no)).zip (F.map fun (i : Nat) => (i : Int))) → Q (.ref D) H'
def sp_Inn_rooms (K : PySem.W.Frag) : Sp := Sp1 fun v H Q E => CFJ K ∧ ∃ M W m st pa, IsAt K H M W v m st pa ∧ QRooms st H Q
def t_Inn_standing (K : PySem.W.Frag) : TS :=
  (tRet (tLc (iList K (Y.tSortItems (tFld K (tVar 0) "taken"))) (gTup K 2 (gCons (gName 1) (gCons (gTup K 3 (gCons (gName 2) (gCons (gName 3) (gCons (gName 4) gNil)))) gNil))) tYes (tTup (tCons (tVar 1) (tCons (tVar 2) (tCons (tVar 3) (tCons (tCB (rListOf K) (tCons (tVar 4) tNil)) tNil))))) [1, 2, 3, 4]))
theorem pure_Inn_standing {K : PySem.W.Frag} {v : V} {H : Hp} {Q : VK} {E : XK} (h : sp_Inn_standing K [v] H Q E) : t_Inn_standing K { nx := fun _ H' => Q .non H', rt := Q } [some v, none, none, none, none] H := by
  obtain ⟨v, e, ci, M, W, m, st, pa, ⟨a, dx, s, t, p, ps, rfl, rfl, I⟩, q⟩ := h
  cases e
  unfold t_Inn_standing
  obtain ⟨kt, ht, htk⟩ := I.taken
  have tl := I.ok.len
  have lk := Paired.length htk
  walk_at "ss"
  refine g_sortItems ?_
  refine g_jfld ci rfl I.obj (by decide) rfl ?_
  refine ⟨t, kt, st.tk.map (·.no), rfl, ht, tks_keys htk, I.ok.up, by rw [List.length_map]; exact tl.2, fun H1 p1 ts s1 fp ft npt h1 hP => ?_⟩
  have lts := Paired.length hP
  walk_at "ss"
  refine lc_own (walk_list (K := K) (a := p1) (xs := ts.map V.ref)) (SdFr H) (fun D G G' v b s h => sf_same s h) (fun D G zs o v b e h => sf_put e h) (fun i => st.tk[i]?) (by rw [List.length_map]; omega) (fun H' s => SqL.of (s _ _ h1)) ?_ ?_
  · rintro D i x H2 H3 N hD hi s2 ⟨acc, hacc⟩ ⟨rfl, hx⟩ hy hn
    rw [List.getElem?_map] at hx
    obtain ⟨t0, ht0, rfl⟩ := Option.map_eq_some_iff.mp hx
    obtain ⟨kv, hkv, htt⟩ := Paired.getL hP ht0
    obtain ⟨e, he, ek, w, sx, qx, ys, e2, g1, g2, g3, g4, g5⟩ := Paired.getL htk hkv
    rw [ek, e2] at htt
    have htt := s2 _ _ htt
    have g1 := s2 _ _ (s1 _ _ g1)
    have g2 := s2 _ _ (s1 _ _ g2)
    have g3 := s2 _ _ (s1 _ _ g3)
    have g4 := tds_same s2 (tds_same s1 g4)
    walk_at "ss"
    rename_i q1 hq1 w1 hw1
    refine hy _ e _ he (sm_new hw1 (same_new hq1)) ⟨w1, sx, q1, ys, rfl, upd_same, at_new hw1 (at_new hq1 g2), at_new hw1 upd_same, tds_new hw1 (tds_new hq1 g4), fun z => ?_, fr_of hq1 (s1.trans s2)⟩
    rw [← z] at hacc
    have hq1 : H3 q1 = none := hq1
    rw [hq1] at hacc
    cases hacc
  · intro D H2 ys hD s2 h2 hR
    walk_at "ss"
    have e1 : (List.range (ts.map V.ref).length).filterMap (fun i => st.tk[i]?) = st.tk := by
      rw [List.length_map, lts, lk]
      have := range_flt st.tk some
      simpa using this
    rw [e1] at hR
    exact q D ys H2 (s1.trans s2) (fr_of hD s1) h2 hR
def t_Inn_rooms (K : PySem.W.Frag) : TS :=
  (tSeq (tAsg (tCB Y.rSortDI (tCons (tFld K (tVar 0) "taken") tNil)) (gName 1))
  (tRet (Y.tListZip K (tCons (tVar 1) (tCons (tCall (sp_dealt K) [] E0 (tCons (tLc (iList K (tVar 1)) (gName 2) tYes (tOp (rIxT K) (tDGet (tFld K (tVar 0) "taken") (tVar 2)) (tC (.int 0))) [2]) tNil)) tNil)))))
/-! YXi: an inn made. -/
open PySem PySem.Spec PyProof.Rows L2
abbrev Ist0 (sh : Shf) : Ist := ⟨sh, [], 0⟩
theorem ist0_ok {sh : Shf} (o : ShOk sh) : IstOk (Ist0 sh) := ⟨o, .nil, by simp, by simp, Int.le_refl _, by show (0 : Int) ≤ 60; decide⟩
/-- a pair (name, list of rules) -/
def NrAt (H : Hp) (v : V) (e : Str × List RuleD) : Prop := ∃ t q xs, v = .ref t ∧ H t = some (.tup [.str e.1, .ref q]) ∧ H q = some (.lst xs) ∧ Rus H xs e.2
/-- a pair (name, list of things) -/
def NdAt (H : Hp) (L : List Addr) (v : V) (e : Str × List PyData) : Prop := ∃ t q xs, v = .ref t ∧ H t = some (.tup [.str e.1, .ref q]) ∧ q ∉ L ∧ H q = some (.lst xs) ∧ Paired (At H L) xs e.2
theorem nr_keep {H H' : Hp} {L : List Addr} {v : V} {e : Str × List RuleD} (k : Kp L H H') (tk : Tk H H') (n : ∀ t q, v = .ref t → H t = some (.tup [.str e.1, .ref q]) → q ∉ L) (h : NrAt H v e) : NrAt H' v e := by
  obtain ⟨t, q, xs, rfl, h1, h2, h3⟩ := h
  exact ⟨t, q, xs, rfl, tk _ _ h1, k _ _ h2 (n t q rfl h1), h3.tk tk⟩
theorem kp_ins {H H' : Hp} {a C dx : Addr} {fs : List (Str × V)} (k : Kp [a] H H') (ha : H a = some (.ins C dx fs)) {b : Addr} {o : HO} (e : H b = some o) (n : ∀ C dx fs, o ≠ .ins C dx fs) : H' b = some o := k _ _ e fun z => by
  rw [List.mem_singleton.mp z, ha] at e
  exact n _ _ _ (Option.some.inj e).symm
theorem nr_ins {H H' : Hp} {a C dx : Addr} {fs : List (Str × V)} {v : V} {e : Str × List RuleD} (k : Kp [a] H H') (ha : H a = some (.ins C dx fs)) (h : NrAt H v e) : NrAt H' v e := by
  obtain ⟨t, q, xs, rfl, h1, h2, h3⟩ := h
  exact ⟨t, q, xs, rfl, kp_ins k ha h1 (by simp), kp_ins k ha h2 (by simp), h3.tk fun b ys e => kp_ins k ha e (by simp)⟩
theorem fun_upd_none {H : Hp} {a s : Addr} {o : HO} (h : upd H a o s = none) (n : s ≠ a) : Fr H s := by
  rw [upd_ne n] at h
  exact h
theorem putS_snoc {sh : Shf} {n : Str} {rs : List RuleD} (h : n ∉ sh.map (·.1)) : putS sh n rs = sh ++ [(n, rs)] := by
  unfold putS
  rw [if_neg]
  rw [List.any_eq_true]
  rintro ⟨e, he, z⟩
  exact h (List.mem_map.mpr ⟨e, he, of_decide_eq_true z⟩)
def sp_Inn_init (K : PySem.W.Frag) : Sp := Sp3 fun v x y H Q E => CFJ K ∧ CFR K ∧ CFB K ∧ ∃ (a dx : Addr) (m : Int) (p : Addr) (xs : List V) (sh : Shf), v = .ref a ∧ H a = some (.ins (He.ga K "Inn") dx []) ∧ x = .int m ∧ y = .ref p ∧ H p = some (.lst xs) ∧ Paired (NrAt H) xs sh ∧ ShOk sh ∧
  ∀ H' M W, Kp [a] H H' → IsAt K H' M W (.ref a) m (Ist0 sh) [] → (∀ x ∈ M, x = a ∨ Fr H x) → (∀ x ∈ W, Fr H x) → Q .non H'
theorem g_mkInn {K : PySem.W.Frag} {E : XK} {H : Hp} {Q : VK} {m : Int} {p : Addr} {xs : List V} {sh : Shf} (ci : CFJ K) (c : CFR K) (cb : CFB K) (hS : H p = some (.lst xs)) (hN : Paired (NrAt H) xs sh) (ok : ShOk sh)
    (q : ∀ v H' M W, Same H H' → IsAt K H' M W v m (Ist0 sh) [] → (∀ x ∈ M ++ W, Fr H x) → Q v H') : rMake (He.ga K "Inn") (sp_Inn_init K) [] E [.int m, .ref p] H Q := by
  intro a dx ha hd hne
  have h1 : upd H dx (.own a) a = none := by rw [upd_ne hne.symm]; exact ha
  have sm : Same H (upd (upd H dx (.own a)) a (.ins (He.ga K "Inn") dx [])) := (same_new hd).trans (same_new h1)
  refine ⟨_, _, _, rfl, ci, c, cb, a, dx, m, p, xs, sh, rfl, upd_same, rfl, rfl, sm _ _ hS, Paired.mapP hN fun _ _ h => nr_keep (Same.kp sm []) (Same.tk sm) (fun _ _ _ _ => by simp) h, ok, fun H' M W k I f g => ⟨rfl, q _ H' M W (fun b o e => k _ _ (sm _ _ e) fun z => ?_) I fun x hx => ?_⟩⟩
  · rw [List.mem_singleton.mp z, ha] at e
    cases e
  · rcases List.mem_append.mp hx with hx | hx
    · rcases f x hx with rfl | f
      · exact ha
      · exact Same.free sm f
    · exact Same.free sm (g x hx)
def t_Inn_init (K : PySem.W.Frag) : TS :=
  (tSeq (sFld K (tVar 0) (tVar 1) "many")
  (tSeq (sFld K (tVar 0) tDNewK "shelf")
  (tSeq (tFor (iList K (tVar 2)) (gTup K 2 (gCons (gName 3) (gCons (gName 4) gNil)))
  (sDPut (tFld K (tVar 0) "shelf") (tVar 3) (tMake (He.ga K "Book") (sp_Book_init K) [] E0 (tCons (tVar 4) tNil))))
  (tSeq (sFld K (tVar 0) tDNewK "taken")
  (tSeq (sFld K (tVar 0) (tC (.int 0)) "coming")
  (sFld K (tVar 0) (tLst tNil) "past"))))))
theorem pure_Inn_init {K : PySem.W.Frag} {v x y : V} {H : Hp} {Q : VK} {E : XK} (h : sp_Inn_init K [v, x, y] H Q E) : t_Inn_init K { nx := fun _ H' => Q .non H', rt := Q } [some v, some x, some y, none, none] H := by
  obtain ⟨v, x, y, e, ci, c, cb, a, dx, m, p, xs, sh, rfl, ho, rfl, rfl, hS, hN, ok, q⟩ := h
  cases e
  unfold t_Inn_init
  with_reducible refine g_seq ?_
  refine g_sFld ?_
  walk_at "ss"
  refine g_jset ci ho (by decide) (by decide) ?_
  with_reducible refine g_seq ?_
  refine g_sFld ?_
  refine fun s hs => ?_
  have hs0 : Fr H s := by
    refine fun_upd_none hs ?_
    rintro rfl
    rw [upd_same] at hs
    cases hs
  walk_at "ss"
  refine g_jset (dx := dx) (fs := [("many", .int m)]) ci (at_new hs upd_same) (by decide) (show (1 : Nat) < 1000 by decide) ?_
  obtain ⟨G, eG⟩ : ∃ G, G = upd (upd (upd H a (.ins (He.ga K "Inn") dx (putF "many" (.int m) []))) s (.dK [])) a (.ins (He.ga K "Inn") dx (putF "shelf" (.ref s) [("many", .int m)])) := ⟨_, rfl⟩
  have nas : s ≠ a := (ne_of_none ho hs0).symm
  have k0 : Kp [a] H G := fun b o e n => by
    rw [eG]
    have nb : b ≠ a := fun z => n (by simp [z])
    exact at_ne nb (at_ne (ne_of_none e hs0) (at_ne nb e))
  have oa : G a = some (.ins (He.ga K "Inn") dx [("many", .int m), ("shelf", .ref s)]) := by rw [eG]; exact upd_same
  have os : G s = some (.dK []) := by rw [eG]; exact at_ne nas upd_same
  rw [← eG]
  clear eG hs
  walk_at "ss"
  have lN := Paired.length hN
  have kseq : ∀ {H' : Hp}, Kp [a] H H' → H' p = some (.lst xs) := fun {H'} k => kp_ins k ho hS (by simp)
  refine ⟨p, rfl, ⟨_, SqL.of (kseq k0)⟩, ?_⟩
  refine for_list (K := K) (a := p) (xs := xs) (fun i σ H' => ∃ v3 v4 kvs W, σ = [some (.ref a), some (.int m), some (.ref p), v3, v4] ∧ Kp [a] H H' ∧ H' a = some (.ins (He.ga K "Inn") dx [("many", .int m), ("shelf", .ref s)]) ∧ H' s = some (.dK kvs) ∧ ShAt K H' W kvs (sh.take i) ∧ (∀ x ∈ W, Fr H x ∧ x ≠ s ∧ ∃ o, H' x = some o))
    ⟨_, _, [], [], rfl, k0, oa, os, .nil, by simp⟩ (fun i σ H' _ h => by obtain ⟨_, _, _, _, _, h, _⟩ := h; exact SqL.of (kseq h)) ?_ ?_
  · clear k0 oa os
    rintro i x σ H' hi ⟨v3, v4, kvs, W, rfl, k, oa, os, sa, hW⟩
    obtain ⟨⟨n, rs⟩, hn, hx⟩ := Paired.getL hN hi
    obtain ⟨t, q', ys, rfl, ht, hq, hR⟩ := nr_ins k ho hx
    dsimp only at ht hR
    have li := List.mem_of_getElem? hn
    walk_at "ss"
    try refine g_dputX ?_
    walk_at "ss"
    refine g_mkBook c cb rfl (.inr ⟨q', rfl, SqL.of hq⟩) hR (ok.len _ li) (ok.good _ li) fun v F H5 s5 b5 f5 => ?_
    refine g_jfld ci rfl (s5 _ _ oa) (by decide) rfl ?_
    walk_at "ss"
    have kl := sh_len sa
    have os5 := s5 _ _ os
    refine ⟨s, _, rfl, .inl ⟨kvs, .inr n, os5, rfl, ?_, rfl⟩, ?_⟩
    · have := ok.few
      rw [List.length_take] at kl
      rw [sizeLine_eq]
      omega
    have nF : ∀ x ∈ F, Fr H x ∧ x ≠ s ∧ ∃ o, H5 x = some o := fun x hx => by
      have fx := f5 x hx
      have nx : x ≠ s := (ne_of_none os fx).symm
      have na : x ≠ a := (ne_of_none oa fx).symm
      refine ⟨?_, nx, b5.known x hx⟩
      show H x = none
      cases e : H x with
      | none => rfl
      | some o =>
        have := k _ _ e (by simp [na])
        rw [show H' x = none from fx] at this
        cases this
    have nodup := ok.nd
    have e1 : putS (sh.take i) n rs = sh.take (i + 1) := by
      rw [List.take_add_one, hn, putS_snoc]
      · rfl
      · rw [List.map_take]
        intro z
        obtain ⟨j, hj, ej⟩ := List.getElem_of_mem z
        rw [List.length_take] at hj
        rw [List.getElem_take] at ej
        have hi' : i < (sh.map (·.1)).length := by rw [List.length_map]; exact (List.getElem?_eq_some_iff.mp hn).1
        have := (List.pairwise_iff_getElem.mp nodup) j i (by omega) hi' (by omega)
        rw [ej, List.getElem_map, (List.getElem?_eq_some_iff.mp hn).2] at this
        exact this rfl
    have kS : Kp [s] H5 (upd H5 s (.dK (putK kvs (.inr n) v))) := kp_upd (by simp)
    have mu : Muts H5 [s] := fun x hx o e => by
      rw [List.mem_singleton.mp hx, os5] at e
      cases e
      exact .inr (.inl ⟨_, rfl⟩)
    have all : ∀ x ∈ W ++ F, Fr H x ∧ x ≠ s ∧ ∃ o, H5 x = some o := fun x hx => by
      rcases List.mem_append.mp hx with hx | hx
      · obtain ⟨h1, h2, o, h3⟩ := hW x hx
        exact ⟨h1, h2, o, s5 _ _ h3⟩
      · exact nF x hx
    refine ⟨_, _, _, W ++ F, rfl, fun b o e nb => ?_, at_ne nas.symm (s5 _ _ oa), upd_same, ?_, fun x hx => ?_⟩
    · exact at_ne (ne_of_none e hs0) (s5 _ _ (k _ _ e nb))
    · rw [← e1]
      exact (sh_put b5 (fun x hx => List.mem_append_right _ hx) n ((sa.mut (Same.kp s5 []) muts_nil fun x _ => by simp).wide fun x hx => List.mem_append_left _ hx)).mut kS mu fun x hx z => (all x hx).2.1 (List.mem_singleton.mp z)
    · obtain ⟨h1, h2, o, h3⟩ := all x hx
      exact ⟨h1, h2, o, at_ne h2 h3⟩
  · rintro σ H' ⟨v3, v4, kvs, W, rfl, k, oa, os, sa, hW⟩
    rw [List.take_of_length_le (by omega)] at sa
    dsimp only
    with_reducible refine g_seq ?_
    refine g_sFld ?_
    refine fun t ht => ?_
    have nta : a ≠ t := ne_of_none oa ht
    have nts : s ≠ t := ne_of_none os ht
    have ft : Fr H t := fr_kp ht k (by simp [nta.symm])
    walk_at "ss"
    refine g_jset ci (at_new ht oa) (by decide) (show (2 : Nat) < 1000 by decide) ?_
    with_reducible refine g_seq ?_
    refine g_sFld ?_
    walk_at "ss"
    refine g_jset (fs := [("many", .int m), ("shelf", .ref s), ("taken", .ref t)]) ci upd_same (by decide) (show (3 : Nat) < 1000 by decide) ?_
    dsimp only
    refine g_sFld ?_
    walk_at "ss"
    rename_i p' hp'
    refine g_jset (fs := [("many", .int m), ("shelf", .ref s), ("taken", .ref t), ("coming", .int 0)]) ci (at_new hp' upd_same) (by decide) (show (4 : Nat) < 1000 by decide) ?_
    have npa : p' ≠ a := (ne_of_none upd_same hp').symm
    have npt : p' ≠ t := (ne_of_none (o := .dK []) (at_ne nta.symm (at_ne nta.symm upd_same)) hp').symm
    have nps : p' ≠ s := (ne_of_none (o := .dK kvs) (at_ne nas (at_ne nas (at_ne nts os))) hp').symm
    have fp' : Fr H' p' := fun_upd_none (fun_upd_none (fun_upd_none hp' npa) npa) npt
    have fp : Fr H p' := fr_kp fp' k (by simp [npa])
    obtain ⟨G, eG⟩ : ∃ G, G = upd (upd (upd (upd (upd H' t (.dK [])) a (.ins (He.ga K "Inn") dx (putF "taken" (.ref t) [("many", .int m), ("shelf", .ref s)]))) a (.ins (He.ga K "Inn") dx (putF "coming" (.int 0) [("many", .int m), ("shelf", .ref s), ("taken", .ref t)]))) p' (.lst [])) a (.ins (He.ga K "Inn") dx (putF "past" (.ref p') [("many", .int m), ("shelf", .ref s), ("taken", .ref t), ("coming", .int 0)])) := ⟨_, rfl⟩
    rw [← eG]
    have kG : Kp [a] H' G := fun b o e n => by
      rw [eG]
      have nb : b ≠ a := fun z => n (by simp [z])
      exact at_ne nb (at_ne (ne_of_none e fp') (at_ne nb (at_ne nb (at_ne (ne_of_none e ht) e))))
    have ga : G a = some (inO K dx s t p' m 0) := by rw [eG]; exact upd_same
    have gp : G p' = some (.lst []) := by rw [eG]; exact at_ne npa upd_same
    have gt : G t = some (.dK []) := by rw [eG]; exact at_ne nta.symm (at_ne npt.symm (at_ne nta.symm (at_ne nta.symm upd_same)))
    have gs : G s = some (.dK kvs) := kG _ _ os (by simp [nas])
    clear eG
    have mu : Muts H' [a] := fun x hx o e => by
      rw [List.mem_singleton.mp hx, oa] at e
      cases e
      exact .inr (.inr ⟨_, _, _, _, rfl⟩)
    have wa : ∀ x ∈ W, x ∉ [a] := fun x hx z => absurd (List.mem_singleton.mp z) (ne_of_none ho (hW x hx).1).symm
    refine q G (innF a s t p' []) W (k.trans kG) ⟨a, dx, s, t, p', [], rfl, rfl, ga, ⟨kvs, gs, sa.mut kG mu wa⟩, ⟨[], gt, .nil⟩, gp, .nil, ?_, fun x hx z => ?_, fun x hx => ?_, ist0_ok ok, by simp⟩ (fun x hx => ?_) fun x hx => (hW x hx).1
    · simp [innF, nas.symm, nta, npa.symm, nts, nps.symm, npt.symm]
    · obtain ⟨h1, h2, o, h3⟩ := hW x hx
      simp [innF] at z
      rcases z with z | z | z | z
      · exact wa x hx (by simp [z])
      · exact h2 z
      · rw [z, ht] at h3; cases h3
      · rw [z, show H' p' = none from fp'] at h3; cases h3
    · obtain ⟨h1, h2, o, h3⟩ := hW x hx
      exact ⟨o, kG _ _ h3 (wa x hx)⟩
    · simp [innF] at hx
      rcases hx with rfl | rfl | rfl | rfl
      · exact .inl rfl
      · exact .inr hs0
      · exact .inr ft
      · exact .inr fp
/-! YXd: rules laid over an inn's book; the last deed undone. -/
open PySem PySem.Spec PyProof.Rows L2
theorem asRule_good {d : PyData} {r : RuleD} (h : asRule d = some r) : r.good := by
  unfold asRule at h
  split at h
  · rename_i z f l d
    split at h
    · split at h
      · rename_i w hw c
        cases h
        rw [Bool.and_eq_true] at c
        obtain ⟨c1, c2⟩ := c
        have c1 : (isDay (.int f) && (isDay (.int l) && decide (f ≤ l))) = true := c1
        unfold isDay at c1
        simp at c1
        exact ⟨by dsimp only; omega, by dsimp only; omega, by dsimp only; omega, c2⟩
      · cases h
    · cases h
  · cases h
theorem allR_good {ds : List PyData} {us : List RuleD} (h : AllR ds us) : ∀ r ∈ us, RuleD.good r := fun r hr => by
  have : some r ∈ ds.map asRule := by rw [show ds.map asRule = us.map some from h]; exact List.mem_map_of_mem hr
  obtain ⟨d, -, e⟩ := List.mem_map.mp this
  exact asRule_good e
theorem shok_put {sh : Shf} {n : Str} {rs vs : List RuleD} (ok : ShOk sh) (hm : (n, rs) ∈ sh) (l : vs.length ≤ 24) (g : ∀ r ∈ vs, RuleD.good r) : ShOk (putS sh n vs) := by
  have e : putS sh n vs = sh.map fun e => if e.1 = n then (e.1, vs) else e := if_pos (List.any_eq_true.mpr ⟨_, hm, by simp⟩)
  rw [e]
  refine ⟨?_, fun e he => ?_, fun e he => ?_, by rw [List.length_map]; exact ok.few⟩
  · rw [List.map_map]
    have : ((fun x : Str × List RuleD => x.1) ∘ fun e : Str × List RuleD => if e.1 = n then (e.1, vs) else e) = fun e => e.1 := by
      funext e
      simp only [Function.comp]
      split <;> rfl
    rw [this]
    exact ok.nd
  · obtain ⟨u, hu, rfl⟩ := List.mem_map.mp he
    split
    · exact l
    · exact ok.len u hu
  · obtain ⟨u, hu, rfl⟩ := List.mem_map.mp he
    split
    · exact g
    · exact ok.good u hu
theorem g_gfld {K : PySem.W.Frag} {f : Str} {n : Nat} {v : V} {σ : L2.St} {H : Hp} {Q : L2.St → Hp → Prop} {a dx : Addr} {fs : List (Str × V)} (ci : CFJ K) (h : σ[n]? = some (some (.ref a))) (o : H a = some (.ins (He.ga K "Inn") dx fs)) (m : f ∈ (["many", "shelf", "taken", "coming", "past"] : List Str)) (l : fs.length < 1000)
    (q : Q σ (upd H a (.ins (He.ga K "Inn") dx (putF f v fs)))) : gFld K (tVar n) f v σ H Q := ⟨_, h, a, _, dx, fs, rfl, o, ci.cls, ci.no m, l, q⟩
def sp_Inn_lay (K : PySem.W.Frag) : Sp := Sp3 fun v y z H Q E => CFJ K ∧ CFR K ∧ CFB K ∧ ∃ (M W : List Addr) (m : Int) (st : Ist) (pa : List Ist) (n : Str) (p : Addr) (xs : List V) (rs us : List RuleD), IsAt K H M W v m st pa ∧ y = .str n ∧ z = .ref p ∧ H p = some (.lst xs) ∧ Rus H xs us ∧ (∀ r ∈ us, RuleD.good r) ∧ us.length ≤ 24 ∧ rs.length + us.length ≤ 24 ∧ pa.length ≤ 1000 ∧ lookS st.sh n = some rs ∧ DoneQ K H M W v m (layS st n (rs ++ us)) (pa ++ [st]) (Q .non)
def spx_Inn_lay (K : PySem.W.Frag) : Sp := Sp3 fun v y z H Q E => CFJ K ∧ CFR K ∧ CFB K ∧ exBare "NoName" K = true ∧ exInit "NoRule" "number" K = true ∧ exBare "TooMany" K = true ∧ ∃ (M W : List Addr) (m : Int) (st : Ist) (pa : List Ist) (n : Str) (p : Addr) (xs : List V) (ds : List PyData), IsAt K H M W v m st pa ∧ y = .str n ∧ z = .ref p ∧ H p = some (.lst xs) ∧ Paired (At H []) xs ds ∧ ds.length ≤ 1000 ∧ pa.length ≤ 1000 ∧
  (lookS st.sh n = none → E (.ref (He.ga K "NoName")) none H) ∧
  (∀ rs, lookS st.sh n = some rs →
    (∀ (i : Nat) (d : PyData) (dd : Addr) H', ds[i]? = some d → asRule d = none → (∃ us, AllR (ds.take i) us) → Same H H' → H' dd = some (.xd [("number", .int (i : Nat))]) → E (.ref (He.ga K "NoRule")) (some dd) H') ∧
    (∀ us H', AllR ds us → (24 < us.length ∨ 24 < rs.length + us.length) → Same H H' → E (.ref (He.ga K "TooMany")) none H') ∧
    (∀ us, AllR ds us → us.length ≤ 24 → rs.length + us.length ≤ 24 → DoneQ K H M W v m (layS st n (rs ++ us)) (pa ++ [st]) (Q .non)))
def spx_Inn_undo (K : PySem.W.Frag) : Sp := Sp1 fun v H Q E => CFJ K ∧ exBare "NoDeed" K = true ∧ ∃ (M W : List Addr) (m : Int) (st : Ist) (pa : List Ist), IsAt K H M W v m st pa ∧ (pa = [] → ∀ H', Same H H' → E (.ref (He.ga K "NoDeed")) none H') ∧ (∀ pa' st', pa = pa' ++ [st'] → ∀ H' M', Kp M H H' → IsAt K H' M' W v m st' pa' → (∀ x ∈ M', x ∈ M) → Q .non H')
theorem gx_jundo {K : PySem.W.Frag} {M W : List Addr} {v : V} {m : Int} {st : Ist} {pa : List Ist} {H : Hp} {Q : VK} {E : XK} (ci : CFJ K) (cn : exBare "NoDeed" K = true) (I : IsAt K H M W v m st pa) (x : pa = [] → ∀ H', Same H H' → E (.ref (He.ga K "NoDeed")) none H') (q : ∀ pa' st', pa = pa' ++ [st'] → ∀ H' M', Kp M H H' → IsAt K H' M' W v m st' pa' → (∀ x ∈ M', x ∈ M) → Q .non H') : spx_Inn_undo K (v :: ([] ++ [])) H Q E := ⟨_, rfl, ci, cn, M, W, m, st, pa, I, x, q⟩
/-- a book of a shelf is laid anew -/
theorem InIn.put {K : PySem.W.Frag} {H H3 : Hp} {M W W3 F3 : List Addr} {a4 dx4 s4 t4 p4 : Addr} {ps4 : List (Addr × Addr × Addr)} {m : Int} {st : Ist} {pa : List Ist} {kv4 : Kvs} {n : Str} {rs : List RuleD} {w : V} (I4 : InIn K H3 W3 a4 dx4 s4 t4 p4 ps4 m st pa) (hs4 : H3 s4 = some (.dK kv4)) (k : Kp M H H3) (nw : Nw M W (innF a4 s4 t4 p4 ps4) W3 H) (b : BookAt K H3 F3 w rs) (f3 : ∀ x ∈ F3, Fr H x) (nm : ∀ x ∈ F3, x ∉ innF a4 s4 t4 p4 ps4) (ok : ShOk (putS st.sh n rs)) :
    Kp M H (upd H3 s4 (.dK (putK kv4 (.inr n) w))) ∧ IsAt K (upd H3 s4 (.dK (putK kv4 (.inr n) w))) (innF a4 s4 t4 p4 ps4) (W3 ++ F3) (.ref a4) m (layS st n rs) pa ∧ Nw M W (innF a4 s4 t4 p4 ps4) (W3 ++ F3) H := by
  have ne' : ∀ x ∈ [a4] ++ t4 :: p4 :: ps4.flatMap (fun x => [x.2.1, x.2.2]), x ≠ s4 := fun x hx => I4.apart (l := [a4]) rfl hx
  have kk : Kp [s4] H3 (upd H3 s4 (.dK (putK kv4 (.inr n) w))) := kp_upd (by simp)
  have mu := I4.muts (L := [s4]) fun x hx => by rw [List.mem_singleton.mp hx]; simp [innF]
  have nW : ∀ x ∈ W3 ++ F3, x ∉ [s4] := fun x hx z => by
    rw [List.mem_singleton.mp z] at hx
    rcases List.mem_append.mp hx with hx | hx
    · exact I4.off _ hx (by simp [innF])
    · exact nm _ hx (by simp [innF])
  obtain ⟨kv, e1, e2⟩ := I4.shelf
  rw [hs4] at e1
  cases e1
  obtain ⟨kt, e3, e4⟩ := I4.taken
  have wl : ∀ x ∈ W3, x ∈ W3 ++ F3 := fun x hx => List.mem_append_left _ hx
  refine ⟨fun b o e n => ?_, (I4.chg (st' := layS st n rs) (fun b o e n => kk _ _ e fun z => n (by rw [List.mem_singleton.mp z]; simp)) wl (fun x hx => ?_) (fun x hx => ?_) (at_ne (ne' _ (by simp)) I4.obj) ⟨_, upd_same, ?_⟩ ⟨kt, at_ne (ne' _ (by simp)) e3, tks_wide wl (tks_mut kk mu (fun x hx => nW x (wl x hx)) e4)⟩ (lay_ok I4.ok ok)).in, nw.1, fun x hx => ?_⟩
  · have e3 := k _ _ e n
    refine at_ne (fun z => ?_) e3
    rcases nw.1 s4 (by simp [innF]) with h | h
    · exact n (z ▸ h)
    · rw [z, show H s4 = none from h] at e
      cases e
  · rcases List.mem_append.mp hx with hx | hx
    · exact I4.off x hx
    · exact nm x hx
  · obtain ⟨o, e⟩ : ∃ o, H3 x = some o := by
      rcases List.mem_append.mp hx with hx | hx
      · exact I4.known x hx
      · exact b.known x hx
    exact ⟨o, kk _ _ e (nW x hx)⟩
  · exact (sh_put b (fun x hx => List.mem_append_right _ hx) n (e2.wide wl)).mut kk mu nW
  · rcases List.mem_append.mp hx with hx | hx
    · exact nw.2 x hx
    · exact .inr (f3 x hx)
def t_Inn_lay (K : PySem.W.Frag) : TS :=
  (tSeq (tDrop (tMeth (He.ga K "Inn") "need_name" (sp_Inn_need_name K) [] E0 (tVar 0) (tCons (tVar 1) tNil)))
  (tSeq (tAsg (tCall (sp_laid K) [] E0 (tCons (tDGet (tFld K (tVar 0) "shelf") (tVar 1)) (tCons (tMake (He.ga K "Book") (sp_Book_init K) [] E0 (tCons (tVar 2) tNil)) tNil))) (gName 3))
  (tSeq (tDrop (tMeth (He.ga K "Inn") "keep" (sp_Inn_keep K) [] E0 (tVar 0) tNil))
  (sDPut (tFld K (tVar 0) "shelf") (tVar 1) (tVar 3)))))
def x_Inn_undo (K : PySem.W.Frag) (E : XK) : TS :=
  (tSeq (tIfS (tTest (tOp (Y.rEqE K) (tFld K (tVar 0) "past") (tLst tNil)))
  (tRaiseB K "NoDeed" (XW E))
  tNext)
  (tAsg (tBM0 K "list" rPop (tFld K (tVar 0) "past")) (gTup K 3 (gCons (Y.gFld K (tVar 0) "shelf") (gCons (Y.gFld K (tVar 0) "taken") (gCons (Y.gFld K (tVar 0) "coming") gNil))))))
theorem purex_Inn_undo {K : PySem.W.Frag} {v : V} {H : Hp} {Q : VK} {E : XK} (h : spx_Inn_undo K [v] H Q E) : x_Inn_undo K E { nx := fun _ H' => Q .non H', rt := Q } [some v] H := by
  obtain ⟨v, e, ci, cn, M, W, m, st, pa, ⟨a, dx, s, t, p, ps, rfl, rfl, I⟩, x, q⟩ := h
  cases e
  unfold x_Inn_undo
  with_reducible refine g_seq ?_
  walk_at "ss"
  refine g_jfld ci rfl I.obj (by decide) rfl ?_
  walk_at "ss"
  rename_i p' hp'
  refine ⟨p, p', _, rfl, rfl, SqL.of (at_new hp' I.past), SqL.of upd_same, ?_⟩
  have s1 : Same H (upd H p' (.lst [])) := same_new hp'
  generalize upd H p' (.lst []) = G at s1 ⊢
  refine ⟨_, rfl, ?_⟩
  rcases snoc_cases pa with rfl | ⟨pa', st', rfl⟩
  · have e : ps = [] := List.eq_nil_of_length_eq_zero (Paired.length I.pas)
    subst e
    refine ite_t rfl ?_
    exact ⟨cn, x rfl _ s1⟩
  · obtain ⟨ps', ⟨q', s', t'⟩, rfl, P', hx'⟩ := Paired.snocR I.pas
    refine ite_df (by simp) ?_
    have I1 := I.same s1
    obtain ⟨hq, -, -⟩ := hx'
    have hq1 := s1 _ _ hq
    walk_at "ss"
    refine g_jfld ci rfl I1.obj (by decide) rfl ?_
    refine g_tyL (SqL.of I1.past) ?_
    walk_at "ss"
    have ep : ((ps' ++ [(q', s', t')]).map fun x => V.ref x.1) = (ps'.map fun x => V.ref x.1) ++ [.ref q'] := by rw [List.map_append]; rfl
    have hp1 := I1.past
    rw [ep] at hp1
    refine ⟨p, _, .ref q', rfl, rfl, hp1, by simp, ?_⟩
    rw [List.dropLast_concat]
    have nqp : q' ≠ p := fun z => by
      rw [show (q', s', t').1 = q' from rfl, z, hp1] at hq1
      cases hq1
    have nap : a ≠ p := fun z => by
      have := I1.obj
      rw [z, hp1] at this
      cases this
    have naq : a ≠ q' := fun z => by
      have := I1.obj
      rw [z, show G q' = _ from hq1] at this
      cases this
    refine ⟨q', _, rfl, SqT.of (at_ne nqp hq1), rfl, ?_⟩
    refine ⟨_, _, rfl, ?_⟩
    refine g_gfld ci rfl (at_ne nap I1.obj) (by decide) (show (5 : Nat) < 1000 by decide) ?_
    refine ⟨_, _, rfl, ?_⟩
    refine g_gfld (dx := dx) (fs := [("many", .int m), ("shelf", .ref s'), ("taken", .ref t), ("coming", .int st.co), ("past", .ref p)]) ci rfl upd_same (by decide) (show (5 : Nat) < 1000 by decide) ?_
    refine ⟨_, _, rfl, ?_⟩
    refine g_gfld (dx := dx) (fs := [("many", .int m), ("shelf", .ref s'), ("taken", .ref t'), ("coming", .int st.co), ("past", .ref p)]) ci rfl upd_same (by decide) (show (5 : Nat) < 1000 by decide) ?_
    refine ⟨rfl, ?_⟩
    obtain ⟨G2, e2⟩ : ∃ G2, G2 = upd (upd (upd (upd G p (.lst (ps'.map fun x => V.ref x.1))) a (.ins (He.ga K "Inn") dx (putF "shelf" (.ref s') [("many", .int m), ("shelf", .ref s), ("taken", .ref t), ("coming", .int st.co), ("past", .ref p)]))) a (.ins (He.ga K "Inn") dx (putF "taken" (.ref t') [("many", .int m), ("shelf", .ref s'), ("taken", .ref t), ("coming", .int st.co), ("past", .ref p)]))) a (.ins (He.ga K "Inn") dx (putF "coming" (.int st'.co) [("many", .int m), ("shelf", .ref s'), ("taken", .ref t'), ("coming", .int st.co), ("past", .ref p)])) := ⟨_, rfl⟩
    have k2 : Kp [a, p] G G2 := fun b o e n => by
      rw [e2]
      have n1 : b ≠ a := fun z => n (by simp [z])
      have n2 : b ≠ p := fun z => n (by simp [z])
      exact at_ne n1 (at_ne n1 (at_ne n1 (at_ne n2 e)))
    have ga : G2 a = some (inO K dx s' t' p m st'.co) := by rw [e2]; exact upd_same
    have gp : G2 p = some (.lst (ps'.map fun x => V.ref x.1)) := by rw [e2]; exact at_ne nap.symm (at_ne nap.symm (at_ne nap.symm upd_same))
    show Q .non _
    rw [← e2]
    refine q pa' st' rfl G2 (innF a s' t' p ps') (fun b o e n => k2 _ _ (s1 _ _ e) fun z => n ?_) (I1.pop k2 ga gp).in fun x hx => ?_
    · simp at z
      rcases z with rfl | rfl <;> simp [innF]
    · rw [show innF a s t p (ps' ++ [(q', s', t')]) = innF a s t p ps' ++ [s', t'] by simp [innF, List.flatMap_append]]
      simp only [innF, List.mem_cons, List.mem_append, List.not_mem_nil, or_false] at hx ⊢
      rcases hx with h | h | h | h | h
      · exact .inl (.inl h)
      · exact .inr (.inl h)
      · exact .inr (.inr h)
      · exact .inl (.inr (.inr (.inr (.inl h))))
      · exact .inl (.inr (.inr (.inr (.inr h))))
def x_Inn_lay (K : PySem.W.Frag) (E : XK) : TS :=
  (tSeq (tDrop (tMethX (He.ga K "Inn") "need_name" (spx_Inn_need_name K) [] (XW E) (tVar 0) (tCons (tVar 1) tNil)))
  (tSeq (tAsg (tCallX (spx_laid K) [] (XW E) (tCons (tDGet (tFld K (tVar 0) "shelf") (tVar 1)) (tCons (tMakeX (He.ga K "Book") (spx_Book_init K) [] (XW E) (tCons (tVar 2) tNil)) tNil))) (gName 3))
  (tSeq (tDrop (tMeth (He.ga K "Inn") "keep" (sp_Inn_keep K) [] E0 (tVar 0) tNil))
  (sDPut (tFld K (tVar 0) "shelf") (tVar 1) (tVar 3)))))
theorem purex_Inn_lay {K : PySem.W.Frag} {v y z : V} {H : Hp} {Q : VK} {E : XK} (h : spx_Inn_lay K [v, y, z] H Q E) : x_Inn_lay K E { nx := fun _ H' => Q .non H', rt := Q } [some v, some y, some z, none] H := by
  obtain ⟨v, y, z, e, ci, c, cb, cn, ce, cm, M, W, m, st, pa, n, p0, xs, ds, J, rfl, rfl, hp, hd, ld, lp, x, q⟩ := h
  cases e
  unfold x_Inn_lay
  walk_at "ss"
  refine g_jmethX (n := 0) rfl J (by decide) ?_
  walk_at "ss"
  refine gx_jneed ci cn J (fun l => ?_) x
  obtain ⟨a, dx, s, t, p, ps, rfl, rfl, I⟩ := J
  obtain ⟨kvs, hs, hsh⟩ := I.shelf
  rcases sh_get n hsh with ⟨e, -⟩ | ⟨rs, v, F, e, hm, ev, b, fW⟩
  · exact absurd e l
  obtain ⟨q1, q2, q3⟩ := q rs e
  walk_at "ss"
  refine g_jfld ci rfl I.obj (by decide) rfl ?_
  walk_at "ss"
  refine ⟨s, v, rfl, .inl ⟨kvs, .inr n, .inl hs, rfl, ev.symm⟩, ?_⟩
  walk_at "ss"
  have ok1 := I.ok.sh.len _ hm
  have ok2 := I.ok.sh.good _ hm
  dsimp only at ok1 ok2
  refine g_mkBookX c cb ce cm rfl (.inr ⟨p0, rfl, SqL.of hp⟩) hd ld q1 (fun us H' a1 a2 s1 => q2 us H' a1 (.inl a2) s1) fun us u F2 H1 a1 a2 s1 b1 f1 => ?_
  have g1 := allR_good a1
  walk_at "ss"
  refine gx_laid c cb ce cm (bk_same s1 b) b1 ok1 a2 ok2 g1 (fun a3 H' s2 => q2 us H' a1 (.inr a3) (s1.trans s2)) fun a3 w F3 H2 s2 b3 f3 => ?_
  have s02 := s1.trans s2
  have I2 := I.same s02
  walk_at "ss"
  refine g_jrobj I2.in (by decide) ?_
  walk_at "ss"
  refine g_jkeep ci I2.in lp fun H3 M3 W3 k3 J3 n3 => ?_
  walk_at "ss"
  have nF3 : ∀ x ∈ F3, Fr H x := fun x hx => Same.free s1 (f3 x hx)
  have M3n : ∀ x ∈ M3, x ∉ F3 := fun x hx hF => by
    obtain ⟨o, ho⟩ := b3.known x hF
    rcases n3.1 x hx with h | h
    · obtain ⟨o', e', -⟩ := I.mem x h
      rw [show H x = none from nF3 x hF] at e'
      cases e'
    · rw [show H2 x = none from h] at ho
      cases ho
  have b4 : BookAt K H3 F3 w (rs ++ us) := bk_mut k3 I2.in.muts (fun x hx hm => by
    obtain ⟨o', e', -⟩ := I.mem x hm
    rw [show H x = none from nF3 x hx] at e'
    cases e') b3
  obtain ⟨a4, dx4, s4, t4, p4, ps4, ea, rfl, I4⟩ := J3
  cases ea
  obtain ⟨kv4, hs4, hsh4⟩ := I4.shelf
  refine g_jfld ci rfl I4.obj (by decide) rfl ?_
  walk_at "ss"
  have kl := sh_len hsh4
  have fw := I.ok.sh.few
  refine ⟨s4, _, rfl, .inl ⟨kv4, .inr n, hs4, rfl, by rw [sizeLine_eq]; omega, rfl⟩, ?_⟩
  obtain ⟨r1, r2, r3⟩ := I4.put hs4 (fun b o e nb => k3 _ _ (s02 _ _ e) nb) (n3.same s02) b4 nF3 (fun x hx hm => M3n x hm hx) (shok_put I.ok.sh hm (by rw [List.length_append]; exact a3) (gd_app ok2 g1))
  exact q3 us a1 a2 a3 _ _ _ r1 r2 r3
/-! YTl: what a list of rules tells (second family). -/
open PySem PySem.Spec PyProof.Rows L2
def sp_Ltells (K : PySem.W.Frag) : Sp := Sp3 fun x u y H Q E => ∃ (p : Addr) (xs : List V) (rs : List RuleD) (w : Wd) (day : Int), x = .ref p ∧ H p = some (.lst xs) ∧ Rus H xs rs ∧ u = .str w.word ∧ y = .int day ∧ ∀ v H', Same H H' → Td H' v (tellsD rs w day) → Q v H'
def kv5 : List (Key × V) := [(.inr "come", .bl true), (.inr "go", .bl true), (.inr "least", .int 1), (.inr "most", .int 14), (.inr "fee", .int 0)]
/-! YFd: the first day on which two books tell otherwise: it is a bound. -/
open PySem PySem.Spec PyProof.Rows L2
theorem due_same {rs : List RuleD} {w : Wd} {d d' : Int} (h : ∀ r ∈ rs, r.w = w → ((r.f ≤ d ∧ d ≤ r.l) ↔ (r.f ≤ d' ∧ d' ≤ r.l))) : dueD rs w d = dueD rs w d' := by
  unfold dueD
  generalize usualD w = u
  induction rs generalizing u with
  | nil => rfl
  | cons r rs ih =>
    rw [List.foldl_cons, List.foldl_cons]
    have e : (if r.w = w ∧ r.f ≤ d ∧ d ≤ r.l then r.d else u) = if r.w = w ∧ r.f ≤ d' ∧ d' ≤ r.l then r.d else u := by
      by_cases z : r.w = w
      · have := h r List.mem_cons_self z
        simp only [z, true_and]
        by_cases y : r.f ≤ d ∧ d ≤ r.l
        · rw [if_pos y, if_pos (this.mp y)]
        · rw [if_neg y, if_neg fun q => y (this.mpr q)]
      · rw [if_neg fun q => z q.1, if_neg fun q => z q.1]
    rw [e]
    exact ih (fun r' hr' => h r' (List.mem_cons_of_mem _ hr')) _
/-- where what is told changes from one day to the next a rule begins, or ended -/
theorem tells_turn {rs : List RuleD} {w : Wd} {d : Int} (h : tellsD rs w (d - 1) ≠ tellsD rs w d) : ∃ r ∈ rs, r.w = w ∧ (r.f = d ∨ r.l + 1 = d) := by
  by_cases z : ∃ r ∈ rs, r.w = w ∧ (r.f = d ∨ r.l + 1 = d)
  · exact z
  · refine absurd ?_ h
    rw [← due_tells, ← due_tells]
    refine due_same fun r hr hw => ?_
    have n1 : r.f ≠ d := fun e => z ⟨r, hr, hw, .inl e⟩
    have n2 : r.l + 1 ≠ d := fun e => z ⟨r, hr, hw, .inr e⟩
    omega
/-- the least day, of all, of which P is so -/
def leastO (n : Nat) (P : Int → Bool) : Option Int := ((List.range n).map fun (i : Nat) => (i : Int)).find? P
theorem least_some {n : Nat} {P : Int → Bool} {d : Int} (h : leastO n P = some d) : P d = true ∧ 0 ≤ d ∧ d < n ∧ ∀ d', 0 ≤ d' → d' < d → P d' = false := by
  unfold leastO at h
  obtain ⟨h1, i, hi, e, h2⟩ := List.find?_eq_some_iff_getElem.mp h
  rw [List.length_map, List.length_range] at hi
  simp only [List.getElem_map, List.getElem_range] at e h2
  refine ⟨h1, by omega, by omega, fun d' a b => ?_⟩
  have := h2 d'.toNat (by omega)
  rw [Int.toNat_of_nonneg a] at this
  simpa using this
theorem least_none {n : Nat} {P : Int → Bool} (h : leastO n P = none) {d : Int} (a : 0 ≤ d) (b : d < n) : P d = false := by
  unfold leastO at h
  have := List.find?_eq_none.mp h d (List.mem_map.mpr ⟨d.toNat, List.mem_range.mpr (by omega), by omega⟩)
  simpa using this
theorem sorted_find {P : Int → Bool} : ∀ {ds : List Int} {d : Int}, ds.Pairwise (· ≤ ·) → d ∈ ds → P d = true → (∀ d' ∈ ds, d' < d → P d' = false) → ds.find? P = some d
  | [], d, _, h, _, _ => by cases h
  | x :: ds, d, p, h, a, b => by
    rw [List.find?_cons]
    rcases List.mem_cons.mp h with rfl | h
    · rw [a]
    · have le := (List.pairwise_cons.mp p).1 d h
      by_cases e : x = d
      · rw [e, a]
      · rw [b x List.mem_cons_self (by omega)]
        exact sorted_find (List.pairwise_cons.mp p).2 h a fun d' hd' => b d' (List.mem_cons_of_mem _ hd')
/-- days that rise, 0 among them, and each day on which P turns to be so -/
theorem find_least {n : Nat} {P : Int → Bool} {ds : List Int} (up : ds.Pairwise (· ≤ ·)) (h0 : 0 ∈ ds) (hb : ∀ d ∈ ds, 0 ≤ d ∧ d < (n : Int)) (ht : ∀ d : Int, 0 < d → d < (n : Int) → P (d - 1) = false → P d = true → d ∈ ds) : ds.find? P = leastO n P := by
  cases e : leastO n P with
  | none => exact List.find?_eq_none.mpr fun d hd => by rw [least_none e (hb d hd).1 (hb d hd).2]; decide
  | some d =>
    obtain ⟨h1, h2, h3, h4⟩ := least_some e
    refine sorted_find up ?_ h1 fun d' hd' hlt => h4 d' (hb d' hd').1 hlt
    by_cases z : d = 0
    · rw [z]; exact h0
    · exact ht d (by omega) h3 (h4 _ (by omega) (by omega)) h1
/-- whether two books tell otherwise of a word and a day -/
def difB (rs ss : List RuleD) (w : Wd) (d : Int) : Bool := !(PyData.eqv (tellsD rs w d) (tellsD ss w d))
def allW : List Wd := [.price, .come, .go, .least, .most, .deal, .fee]
/-- the first word, and its least day, of which two books tell otherwise -/
def unlO (rs ss : List RuleD) : Option (Wd × Int) := allW.findSome? fun w => (leastO 1000001 (difB rs ss w)).map fun d => (w, d)
/-- a list of days good for two books -/
structure DaysOk (ds : List Int) (rs ss : List RuleD) : Prop where
  up : ds.Pairwise (· ≤ ·)
  zero : (0 : Int) ∈ ds
  rng : ∀ d ∈ ds, 0 ≤ d ∧ d ≤ 1000000
  bnd : ∀ r ∈ rs ++ ss, r.f ∈ ds ∧ (r.l + 1 ≤ 1000000 → r.l + 1 ∈ ds)
theorem dif_turn {rs ss : List RuleD} {w : Wd} {d : Int} (a : difB rs ss w (d - 1) = false) (b : difB rs ss w d = true) : ∃ r ∈ rs ++ ss, r.f = d ∨ r.l + 1 = d := by
  by_cases e1 : tellsD rs w (d - 1) = tellsD rs w d
  · by_cases e2 : tellsD ss w (d - 1) = tellsD ss w d
    · unfold difB at a b
      rw [e1, e2, b] at a
      cases a
    · obtain ⟨r, hr, -, h⟩ := tells_turn e2
      exact ⟨r, List.mem_append_right _ hr, h⟩
  · obtain ⟨r, hr, -, h⟩ := tells_turn e1
    exact ⟨r, List.mem_append_left _ hr, h⟩
theorem DaysOk.find {ds : List Int} {rs ss : List RuleD} (h : DaysOk ds rs ss) (w : Wd) : ds.find? (difB rs ss w) = leastO 1000001 (difB rs ss w) := by
  refine find_least h.up h.zero (fun d hd => ⟨(h.rng d hd).1, by have := (h.rng d hd).2; omega⟩) fun d h1 h2 a b => ?_
  obtain ⟨r, hr, e | e⟩ := dif_turn a b
  · rw [← e]; exact (h.bnd r hr).1
  · rw [← e]; exact (h.bnd r hr).2 (by omega)
theorem find_first {α β : Type} {f : α → Option β} {x : α} {y : β} : ∀ {l : List α} {j : Nat}, l[j]? = some x → (∀ z ∈ l.take j, f z = none) → f x = some y → l.findSome? f = some y
  | [], _, h, _, _ => by cases h
  | a :: l, 0, h, _, e => by
    cases h
    rw [List.findSome?_cons, e]
  | a :: l, j + 1, h, n, e => by
    rw [List.findSome?_cons, n a (by simp)]
    exact find_first (l := l) (j := j) h (fun z hz => n z (by simp [hz])) e
theorem find_getI {P : Int → Bool} {d : Int} : ∀ {l : List Int} {j : Nat}, l[j]? = some d → (∀ z ∈ l.take j, P z = false) → P d = true → l.find? P = some d
  | [], _, h, _, _ => by cases h
  | a :: l, 0, h, _, e => by
    cases h
    rw [List.find?_cons, e]
  | a :: l, j + 1, h, n, e => by
    rw [List.find?_cons, n a (by simp)]
    exact find_getI (l := l) (j := j) h (fun z hz => n z (by simp [hz])) e
theorem flt_le (n : Int) (l : List Int) : (l.filterMap fun d => if d ≤ n then some d else none) = l.filter fun d => decide (d ≤ n) := by
  induction l with
  | nil => rfl
  | cons a l ih =>
    by_cases z : a ≤ n
    · rw [List.filterMap_cons, if_pos z, List.filter_cons, if_pos (decide_eq_true z), ih]
    · rw [List.filterMap_cons, if_neg z, List.filter_cons, if_neg (by simpa using z), ih]
theorem paired_int {bl : List V} {L : List Int} (h : Paired (fun v (b : Int) => v = V.int b) bl L) : bl = L.map V.int := by
  induction h with
  | nil => rfl
  | cons a _ ih => rw [a, ih]; rfl
/-! YSt: sorted(set(xs)), xs a list of whole numbers, any number of them. -/
open PySem PySem.Spec PyProof.Rows L2
/-- an empty set as it is made -/
abbrev ES (w : World) : Obj := { cls := .type "set", dict := none, data := .set #[] 0 (.fresh 0 0 (!w.params.followText "set-order")) }
section
variable {P : Program} {w : World} {A : Around} {E : Value → Shared → Prop} {s : Shared}
set_option maxHeartbeats 8000000 in
theorem set_ofL {l : Addr} {xs : Array Value} (ns : List Int) {Q : Value → Shared → Prop} (hh : A.handled = none) (hl : s.heap.IsList l xs) (hi : IntsAre xs.toList ns) (few : ns.length + 1 < scanBound)
    (q : ∀ (h' : Heap) (tk c : Nat), c ≤ ns.length → SetR w h' s.heap.objs.size (fun j => decide (j ∈ ns)) c → (∀ b o, s.heap.get? b = some o → h'.get? b = some o) → Q (.ref s.heap.objs.size) { s with heap := h', toks := tk }) :
    wpAny (model P w) A (call (.type "set") [.ref l]) Q E s := by
  have sz : xs.size = ns.length := by rw [← hi.length, Array.length_toList]
  have ⟨c0, t0, h0⟩ := F.called_set.mro
  have hm := F.called_set.made
  have hs := F.called_set.sub
  refine wpAny_call (codeAny_of_tree (wpAny_pure ⟨Code.quiet_builtin _ (by decide +kernel), codeAny_builtin F.entry_type_call ?_⟩))
  rw [Around.under_plain (weight_type_call_type "set" [.ref l] []) rfl]
  have hn := F.called_set.notType
  have hc := F.called_set.canCreate
  have ht := F.typeCall_set_1 (.ref l)
  repeat any_goals first | assumption | wp_step
  refine codeAny_mono (code_set_led1 (.ref l) (E := E) (Q₁ := fun v s1 => v = .ref s.heap.objs.size ∧ s1 = { s with heap := s.heap.push (ES w) }) ⟨rfl, rfl⟩) fun r s1 hr => ?_
  cases r with
  | error e => exact hr
  | ok fl => cases fl with
  | ret v =>
    obtain ⟨rfl, rfl⟩ := hr
    have at0 : (s.heap.push (ES w)).get? s.heap.objs.size = some (ES w) := Heap.get?_push_size _ rfl
    have ty0 : Shared.TypeIs { s with heap := s.heap.push (ES w) } (.ref s.heap.objs.size) "set" := ⟨_, at0, rfl⟩
    have i1 := F.called_set.init.lookup
    have i2 := F.called_set.init.bind (.ref s.heap.objs.size)
    repeat any_goals first | assumption | wp_step
    refine codeAny_mono (codeAny_call_builtin (R := wants (fun r s2 => r = .none ∧ ∃ h' tk c, s2 = { s with heap := h', toks := tk } ∧ c ≤ ns.length ∧ SetR w h' s.heap.objs.size (fun j => decide (j ∈ ns)) c ∧ ∀ b o, s.heap.get? b = some o → h'.get? b = some o) E)
      F.called_set.init.plain F.entry_set_init (check_set_init_1 ty0 ?_)) fun r s2 hr => ?_
    · obtain ⟨⟨oc, od, oa, os⟩, ho, e1, nl, e2⟩ := hl
      cases e1
      cases e2
      have hl1 : (s.heap.push (ES w)).IsList l xs := ⟨_, Heap.get?_push_of_some _ ho, rfl, nl, rfl⟩
      have ho1 : (s.heap.push (ES w)).get? l = some { cls := .type "list", dict := od, data := .seq xs nl, slots := os } := Heap.get?_push_of_some _ ho
      have s1 := F.sub_list_set
      have s2 := F.sub_list_frozenset
      have nd : (Value.type "list" == Value.type "dict") = false := by decide
      unfold Builtin.«set.__init__» noKeywords Builtin.Frozenset.updateFrom
      generalize hPI : pyIter = PI
      wp_walk
      subst hPI
      refine wpAny_pyIter_list hl1 (wpAny_bind (wpAny_runValue ?_))
      have lt : l < s.heap.objs.size := Heap.lt_size ho
      have n1 : l ≠ (s.heap.push (ES w)).objs.size := by rw [Heap.size_push]; exact Nat.ne_of_lt (Nat.lt_succ_of_lt lt)
      have n2 : s.heap.objs.size ∉ [(s.heap.push (ES w)).objs.size, l] := by
        rw [Heap.size_push]
        intro z
        rcases List.mem_cons.mp z with z | z
        · exact absurd z (Nat.ne_of_lt (Nat.lt_succ_self _))
        · exact absurd (List.mem_singleton.mp z) (Nat.ne_of_gt lt)
      refine set_update_ints ((Walks.list (A := A.in1.in1.in1) (by simp [hh]) _ l n1 xs).toS) s.heap.objs.size n2 ns sz few (fun i v hv => ?_) (xs.size - 0) 0 _ (by omega) (Nat.zero_le _) ⟨⟨_, Heap.get?_push_size _ rfl, rfl, rfl⟩, hl1.push _⟩ ⟨0, Nat.le_refl 0, setR_new_at (Heap.get?_push_of_some _ at0)⟩ ?_
      · have lti : i < ns.length := sz ▸ (Array.getElem?_eq_some_iff.mp hv).1
        obtain ⟨t, e⟩ := PyProof.Rows.IntsAre.int_at hi i v (by rw [Array.getElem?_toList, hv])
        rw [List.getD_eq_getElem?_getD, List.getElem?_eq_getElem lti] at e
        exact ⟨_, t, List.getElem?_eq_getElem lti, e⟩
      · rintro ⟨h', g', d', tk', os'⟩ c mv hc R
        cases (show g' = s.gens from mv.gens)
        cases (show d' = s.drawn from mv.drawn)
        cases (show os' = s.os from mv.os)
        show wpAny _ _ _ _ _ _
        refine wpAny_pure ?_
        show wpAny _ _ (ret Value.none) _ _ _
        refine wpAny_pure ⟨rfl, h', tk', c, rfl, by omega, R, fun b o e => ?_⟩
        have lb : b < s.heap.objs.size := Heap.lt_size e
        refine mv.heap b o (fun z => ?_) (Heap.get?_push_of_some _ (Heap.get?_push_of_some _ e))
        rcases List.mem_cons.mp z with z | z
        · exact absurd z (Nat.ne_of_lt lb)
        · have z := List.mem_singleton.mp z
          rw [Heap.size_push] at z
          exact absurd z (Nat.ne_of_lt (Nat.lt_succ_of_lt lb))
    · cases r with
      | error e => exact hr
      | ok fl => cases fl with
      | ret v =>
        obtain ⟨rfl, h', tk, c, rfl, hc, R, k⟩ := hr
        repeat any_goals first | assumption | wp_step
        exact q _ _ _ hc R k
      | _ => exact hr.elim
  | _ => exact hr.elim
theorem sort_set {a : Addr} {S : Int → Bool} {n : Nat} {Q : Value → Shared → Prop} (R : SetR w s.heap a S n) (hh : A.handled = none) (few : n ≤ 4000)
    (q : ∀ s' p (out : List Value) (c : Nat) (ns : List Int), (∀ b o, s.heap.get? b = some o → s'.heap.get? b = some o) → s'.gens = s.gens → s'.os = s.os → s.heap.objs.size ≤ p →
      s'.heap.get? p = some (seqObj "list" out.toArray c) → IntsAre out ns → ns.Pairwise (· < ·) → (∀ k, k ∈ ns ↔ S k = true) → ns.length = n → Q (.ref p) s') :
    wpAny (model P w) A (call (.builtin "sorted") [.ref a]) Q E s := by
  obtain ⟨o, es, ep, t, ho, ⟨ho1, -⟩, hd, g, nd, hm, hb, hf, hn, hr, hl⟩ := R
  refine Calls.call_function_entry kind_sorted plain_sorted entry_sorted (args_sorted1 _) ?_
  unfold Builtin.«sorted»
  refine wpAny_bind (m := checkCount "sorted" 1 1 _) (wpAny_pure (wpAny_bind (collect_set (A := A.in1) hh ⟨o, ho, ho1, hd⟩ hf hb hr hl fun s1 vs k1 hz g1 o1 pm => ?_)))
  have lv : vs.length = n := by rw [pm.length_eq, List.length_map, Array.length_toList]; exact hn
  have lz : vs.length ≤ sizeLine := by rw [lv, sizeLine_eq]; omega
  have iv : IntsAre vs (vs.map Builtin.Re.reRawOf) := ints_of vs fun v hv => by
    obtain ⟨e, he, rfl⟩ := List.mem_map.mp (pm.mem_iff.mp hv)
    obtain ⟨k, tk, h1, -⟩ := g e he
    exact ⟨k, tk, h1⟩
  have pk : (vs.map Builtin.Re.reRawOf).Perm (es.toList.map keyOf) := by
    have := pm.map Builtin.Re.reRawOf
    rw [List.map_map] at this
    exact this
  have hoL : (s1.heap.push (seqObj "list" vs.toArray 0)).get? s1.heap.objs.size = some (seqObj "list" vs.toArray 0) := Heap.get?_push_size _ rfl
  refine wpAny_bind (wpAny_newList (wpAny_bind (wpAny_holding (wpAny_call_entry slot_list_sort ⟨_, hoL, rfl⟩ entry_list_sort
    (SrtO.list_sort_ord SrtO.swo_int hoL lz (fun h2 => SrtO.ints_sortable iv h2) fun out h1 h2 => ⟨_, rfl, ?_⟩) (args_list_sort _)))) lz)
  obtain ⟨i1, i2, i3⟩ := SrtO.ints_out iv h1 h2
  obtain ⟨c, hc⟩ := PyProof.Rows.sortedHeap_at (vs := vs) (out := out.toArray) hoL
  have pn := i2.trans pk
  refine wpAny_pure ⟨_, rfl, q _ s1.heap.objs.size out c _ (fun b u e => ?_) g1 o1 hz hc i1 (lt_of_le_nodup _ i3 (pn.nodup_iff.mpr nd)) (fun k => by rw [pn.mem_iff, ← hm k]) ?_⟩
  · have e1 := k1 b u e
    have lt := Heap.lt_size e1
    show (sortedHeap (s1.heap.push (seqObj "list" vs.toArray 0)) s1.heap.objs.size vs out.toArray).get? b = some u
    rw [PyProof.Rows.sortedHeap_old (Nat.ne_of_lt lt) (by rw [size_push']; exact Nat.lt_succ_of_lt lt)]
    exact Heap.get?_push_of_some _ e1
  · rw [pn.length_eq, List.length_map, Array.length_toList, hn]
end
/-- sorted(set(xs)) -/
def tSortSet (K : PySem.W.Frag) (ta : TE) : TE := fun σ H Q => ta σ H fun x H1 => ∃ (l : Addr) (ns : List Int), x = .ref l ∧ SqL K H1 l (ns.map V.int) ∧ ns.length ≤ 4000 ∧
  ∀ (out : List Int) (p : Addr), Fr H1 p → out.Pairwise (· < ·) → out.length ≤ ns.length → (∀ k, k ∈ out ↔ k ∈ ns) → Q (.ref p) (upd H1 p (.lst (out.map V.int)))
theorem pe_sortSet {X : Cx} {a : Expr} {ta : TE} {p p2 q pos : Pos} (hg : Gl X "sorted") (hm : X.mg "sorted" = none) (hg2 : Gl X "set") (hm2 : X.mg "set" = none) (ha : PE X a ta) (hc : X.calm = true := by rfl)
    (na : starEach [a] X.env = (false, eval a X.env) :: starEach [] X.env := by rfl) : PE X (.Call (.Name "sorted" p) [.Call (.Name "set" p2) [a] [] q] [] pos) (tSortSet X.K ta) := by
  refine ⟨fun pins s σ H Q I h => Call_ (ld_blt I hg hm boot_sorted (PyProof.Rows.callWith_builtin1 (PyProof.Rows.args_cons ?_ rfl) rfl rfl))⟩
  refine Call_ (ld_blt I hg2 hm2 PyProof.Rows.boot_set (PyProof.Rows.callWith_type1 (PyProof.Rows.args_cons (thn (ha.run pins s σ H _ I h) fun v s1 ⟨x, H1, I1, r1, q1⟩ => PyProof.Rows.args_nil ?_) na) na rfl))
  obtain ⟨l, ns, rfl, hq, hl, q1⟩ := q1
  cases r1
  obtain ⟨its, r, pl, hz⟩ := I1.list hq
  refine set_ofL ns (I1.ok.hd hc) pl.isList (by simpa using r.ints) (by unfold scanBound; omega) fun h' tk c lc R k => PyProof.Rows.args_nil ?_
  have I2 : Inv X pins σ H1 { s1 with heap := h', toks := tk } := I1.kept fun b o e => k b o e
  refine sort_set (s := { s1 with heap := h', toks := tk }) R (I2.ok.hd hc) (by omega) fun s' p out c' ms k2 g o hp hg' hi hs hm' hl' => ?_
  have few : (ms.map V.int).length ≤ sizeLine := by rw [List.length_map, hl', sizeLine_eq]; omega
  have hn : H1 p = none := I2.hok.fresh hp
  have J : Inv X pins σ (upd H1 p (.lst (ms.map V.int))) { ({ s1 with heap := h', toks := tk } : Shared) with heap := s'.heap, gens := s'.gens, drawn := s'.drawn, toks := s'.toks } :=
    I2.call (ch := []) (Un.laid k2 hp hn) (I2.hok.laid k2 hp ⟨few, out, c', vals_of_ints hi, hg'⟩) (by rw [g]; exact I2.bare) (fun _ z => nomatch z)
  have e : s' = { s1 with heap := s'.heap, gens := s'.gens, drawn := s'.drawn, toks := s'.toks } := by
    cases s'
    cases s1
    cases o
    rfl
  rw [e]
  exact ⟨.ref p, _, J, rfl, q1 ms p hn hs (by omega) fun j => by rw [hm', decide_eq_true_eq]⟩
theorem g_sortSet {K : PySem.W.Frag} {n : Nat} {l : Addr} {ns : List Int} {σ : L2.St} {H : Hp} {Q : VK} (e : σ[n]? = some (some (.ref l))) (h : SqL K H l (ns.map V.int)) (z : ns.length ≤ 4000) (q : ∀ (out : List Int) (p : Addr), Fr H p → out.Pairwise (· < ·) → out.length ≤ ns.length → (∀ k, k ∈ out ↔ k ∈ ns) → Q (.ref p) (upd H p (.lst (out.map V.int)))) : tSortSet K (tVar n) σ H Q :=
  ⟨_, e, l, ns, rfl, h, z, q⟩
/-! YTu: the bounds of books, the first day on which two tell otherwise. -/
open PySem PySem.Spec PyProof.Rows L2
/-- the days on which what a list of rules tells may change -/
def bndR (rs : List RuleD) : List Int := rs.flatMap fun r => [r.f, r.l + 1]
theorem bnd_len (rs : List RuleD) : (bndR rs).length = 2 * rs.length := by
  induction rs with
  | nil => rfl
  | cons r rs ih =>
    show (r.f :: (r.l + 1) :: bndR rs).length = _
    simp only [List.length_cons, ih]
    omega
theorem bnd_snoc (rs : List RuleD) (r : RuleD) : bndR (rs ++ [r]) = bndR rs ++ [r.f, r.l + 1] := by
  unfold bndR
  simp
theorem g_neD_tells {K : PySem.W.Frag} {H : Hp} {Q : VK} {x y : V} {rs ss : List RuleD} {w : Wd} {d : Int} (hx : Td H x (tellsD rs w d)) (hy : Td H y (tellsD ss w d)) (g1 : ∀ r ∈ rs, RuleD.good r) (g2 : ∀ r ∈ ss, RuleD.good r) (q : Q (.bl (difB rs ss w d)) H) : rNeD K x y H Q :=
  ⟨_, _, hx.dp, hy.dp, (sh_fits (tells_fits g1 w d)).ok (by decide), (sh_fits (tells_fits g2 w d)).ok (by decide), q⟩
theorem daysOk_bnd {out : List Int} {rs ss : List RuleD} (g1 : ∀ r ∈ rs, RuleD.good r) (g2 : ∀ r ∈ ss, RuleD.good r) (up : out.Pairwise (· < ·)) (mem : ∀ k, k ∈ out ↔ k ∈ 0 :: (bndR rs ++ bndR ss)) : DaysOk (out.filter fun d => decide (d ≤ 1000000)) rs ss := by
  have gd : ∀ r ∈ rs ++ ss, RuleD.good r := fun r hr => (List.mem_append.mp hr).elim (g1 r) (g2 r)
  have bm : ∀ r ∈ rs ++ ss, r.f ∈ out ∧ r.l + 1 ∈ out := fun r hr => by
    have : ∀ x, x ∈ [r.f, r.l + 1] → x ∈ out := fun x hx => (mem x).mpr (by
      refine List.mem_cons_of_mem _ ?_
      unfold bndR
      rw [← List.flatMap_append]
      exact List.mem_flatMap.mpr ⟨r, hr, hx⟩)
    exact ⟨this _ (by simp), this _ (by simp)⟩
  refine ⟨(up.imp fun h => Int.le_of_lt h).filter _, List.mem_filter.mpr ⟨(mem 0).mpr (by simp), by decide⟩, fun d hd => ?_, fun r hr => ?_⟩
  · obtain ⟨h1, h2⟩ := List.mem_filter.mp hd
    have h2 := of_decide_eq_true h2
    refine ⟨?_, h2⟩
    rcases List.mem_cons.mp ((mem d).mp h1) with h | h
    · omega
    · unfold bndR at h
      rw [← List.flatMap_append] at h
      obtain ⟨r, hr, hx⟩ := List.mem_flatMap.mp h
      obtain ⟨a, b, c, -⟩ := gd r hr
      simp only [List.mem_cons, List.not_mem_nil, or_false] at hx
      omega
  · obtain ⟨a, b⟩ := bm r hr
    obtain ⟨f0, f1, f2, -⟩ := gd r hr
    exact ⟨List.mem_filter.mpr ⟨a, decide_eq_true (by omega)⟩, fun z => List.mem_filter.mpr ⟨b, decide_eq_true z⟩⟩
def sp_bounds_of (K : PySem.W.Frag) : Sp := Sp1 fun x H Q E => CFR K ∧ CFB K ∧ ∃ (p : Addr) (v u : V) (rs ss : List RuleD), x = .ref p ∧ SqL K H p [v, u] ∧ BkAt K H v rs ∧ BkAt K H u ss ∧ rs.length ≤ 500 ∧ ss.length ≤ 500 ∧
  ∀ (out : List Int) (l : Addr) (H' : Hp), Same H H' → Fr H l → H' l = some (.lst (out.map V.int)) → out.Pairwise (· < ·) → out.length ≤ 4000 → (∀ k, k ∈ out ↔ k ∈ 0 :: (bndR rs ++ bndR ss)) → Q (.ref l) H'
theorem g_bounds_of {K : PySem.W.Frag} {p : Addr} {v u : V} {rs ss : List RuleD} {H : Hp} {Q : VK} {E : XK} (cf : CFR K) (cb : CFB K) (h : SqL K H p [v, u]) (b1 : BkAt K H v rs) (b2 : BkAt K H u ss) (l1 : rs.length ≤ 500) (l2 : ss.length ≤ 500)
    (q : ∀ (out : List Int) (l : Addr) (H' : Hp), Same H H' → Fr H l → H' l = some (.lst (out.map V.int)) → out.Pairwise (· < ·) → out.length ≤ 4000 → (∀ k, k ∈ out ↔ k ∈ 0 :: (bndR rs ++ bndR ss)) → Q (.ref l) H') : sp_bounds_of K ([.ref p] ++ []) H Q E :=
  ⟨_, rfl, cf, cb, p, v, u, rs, ss, rfl, h, b1, b2, l1, l2, q⟩
/-- what unlike tells -/
def sp_unlike (K : PySem.W.Frag) : Sp := Sp2 fun x y H Q E => CFR K ∧ CFB K ∧ ∃ (rs ss : List RuleD), BkAt K H x rs ∧ BkAt K H y ss ∧ (∀ r ∈ rs, RuleD.good r) ∧ (∀ r ∈ ss, RuleD.good r) ∧ rs.length ≤ 500 ∧ ss.length ≤ 500 ∧
  (unlO rs ss = none → ∀ H', Same H H' → Q .non H') ∧ (∀ w d, unlO rs ss = some (w, d) → ∀ p H', Same H H' → Fr H p → H' p = some (.tup [.str w.word, .int d]) → Q (.ref p) H')
theorem g_unlike {K : PySem.W.Frag} {x y : V} {rs ss : List RuleD} {H : Hp} {Q : VK} {E : XK} (cf : CFR K) (cb : CFB K) (b1 : BkAt K H x rs) (b2 : BkAt K H y ss) (g1 : ∀ r ∈ rs, RuleD.good r) (g2 : ∀ r ∈ ss, RuleD.good r) (l1 : rs.length ≤ 500) (l2 : ss.length ≤ 500)
    (q1 : unlO rs ss = none → ∀ H', Same H H' → Q .non H') (q2 : ∀ w d, unlO rs ss = some (w, d) → ∀ p H', Same H H' → Fr H p → H' p = some (.tup [.str w.word, .int d]) → Q (.ref p) H') : sp_unlike K ([x, y] ++ []) H Q E :=
  ⟨_, _, rfl, cf, cb, rs, ss, b1, b2, g1, g2, l1, l2, q1, q2⟩
def t_bounds_of (K : PySem.W.Frag) : TS :=
  (tSeq (tAsg (tLst (tCons (tC (.int 0)) tNil)) (gName 1))
  (tSeq (tFor (iList K (tVar 0)) (gName 2)
  (tFor (iList K (tMeth (He.ga K "Book") "rules" (sp_Book_rules K) [] E0 (tVar 2) tNil)) (gTup K 4 (gCons (gName 3) (gCons (gName 4) (gCons (gName 5) (gCons (gName 6) gNil)))))
  (tDrop (tBM K "list" rExtend (tVar 1) (tCons (tLst (tCons (tVar 4) (tCons (tOp rAdd (tVar 5) (tC (.int 1))) tNil))) tNil)))))
  (tRet (Y.tSortSet K (tVar 1)))))
theorem pure_bounds_of {K : PySem.W.Frag} {x : V} {H : Hp} {Q : VK} {E : XK} (h : sp_bounds_of K [x] H Q E) : t_bounds_of K { nx := fun _ H' => Q .non H', rt := Q } [some x, none, none, none, none, none, none] H := by
  obtain ⟨x, e, cf, cb, p, v, u, rs, ss, rfl, hp, b1, b2, l1, l2, q⟩ := h
  cases e
  unfold t_bounds_of
  walk_at "ss"
  rename_i l hl
  refine for_list (K := K) (a := p) (xs := [v, u]) (fun i σ H' => ∃ v2 v3 v4 v5 v6, σ = [some (.ref p), some (.ref l), v2, v3, v4, v5, v6] ∧ Same H H' ∧ H' l = some (.lst ((0 :: (([rs, ss].take i).flatMap bndR)).map V.int))) ⟨_, _, _, _, _, rfl, same_new hl, upd_same⟩ (fun i σ H' _ h => by obtain ⟨_, _, _, _, _, _, h, _⟩ := h; exact sql_same h hp) ?_ ?_
  · rintro i x σ H1 hi ⟨v2, v3, v4, v5, v6, rfl, s1, h1⟩
    obtain ⟨ts, hts, hx, lt, et⟩ : ∃ ts, [rs, ss][i]? = some ts ∧ BkAt K H x ts ∧ ts.length ≤ 500 ∧ ((([rs, ss].take i).flatMap bndR)).length ≤ 1000 := by
      match i, hi with
      | 0, hi => cases hi; exact ⟨rs, rfl, b1, l1, by simp⟩
      | 1, hi => cases hi; exact ⟨ss, rfl, b2, l2, by simp [bnd_len]; omega⟩
    obtain ⟨F, bk⟩ := hx.same s1
    walk_at "ss"
    rename_i q2 H2 ys s2 f2 h2 r2
    have nlq : l ≠ q2 := ne_of_none h1 f2
    have yl := ru_len r2
    refine for_list (K := K) (a := q2) (xs := ys) (fun j σ H' => ∃ v3 v4 v5 v6, σ = [some (.ref p), some (.ref l), some x, v3, v4, v5, v6] ∧ Same H H' ∧ H' l = some (.lst ((0 :: (([rs, ss].take i).flatMap bndR ++ bndR (ts.take j))).map V.int)) ∧ H' q2 = some (.lst ys) ∧ Rus H' ys ts) ⟨_, _, _, _, rfl, s1.trans s2, by simpa [bndR] using s2 _ _ h1, h2, r2⟩ (fun i σ H' _ h => by obtain ⟨_, _, _, _, _, _, _, h, _⟩ := h; exact SqL.of h) ?_ ?_
    · rintro j y σ H3 hj ⟨v3, v4, v5, v6, rfl, s3, h3, h4, r3⟩
      obtain ⟨r, hr, ⟨a, wv, rfl, ha, hw⟩⟩ := Paired.getL r3 hj
      have lj : j < 500 := by
        have := (List.getElem?_eq_some_iff.mp hr).1
        omega
      have lb : (bndR (ts.take j)).length ≤ 1000 := by
        rw [bnd_len, List.length_take]
        omega
      walk_at "ss"
      rename_i p4 hp4
      have e1 : ts.take (j + 1) = ts.take j ++ [r] := by rw [List.take_add_one, hr]; rfl
      refine ⟨_, _, _, _, rfl, sm_own hl (sm_new hp4 s3), ?_, at_ne nlq.symm (at_new hp4 h4), ru_put (at_new hp4 h3) (ru_new hp4 r3)⟩
      rw [upd_same, e1, bnd_snoc]
      simp
    · rintro σ H3 ⟨v3, v4, v5, v6, rfl, s3, h3, h4, r3⟩
      walk_at "ss"
      refine ⟨_, _, _, _, _, rfl, s3, ?_⟩
      rw [List.take_of_length_le (show ts.length ≤ ys.length by omega)] at h3
      rw [h3, List.take_add_one, hts]
      simp
  · rintro σ H1 ⟨v2, v3, v4, v5, v6, rfl, s1, h1⟩
    walk_at "ss"
    refine g_sortSet rfl (SqL.of h1) ?_ fun out p2 hp2 up lo mem => ?_
    · simp [bnd_len]
      omega
    walk_at "ss"
    refine q out p2 _ (sm_new hp2 s1) (fr_of hp2 s1) upd_same up (Nat.le_trans lo (by simp [bnd_len]; omega)) fun k => ?_
    rw [mem]
    simp
def t_unlike (K : PySem.W.Frag) : TS :=
  (tSeq (tAsg (tLc (iList K (tCall (sp_bounds_of K) [] E0 (tCons (tLst (tCons (tVar 0) (tCons (tVar 1) tNil))) tNil))) (gName 2) (tTest (tOp rLe (tVar 2) (tC (.int 1000000)))) (tVar 2) [2]) (gName 3))
  (tSeq (tFor (iTup K (tC (.ref (He.ga K "WORDS")))) (gName 4)
  (tFor (iList K (tVar 3)) (gName 2)
  (tIfS (tTest (tOp (rNeD K) (tMeth (He.ga K "Book") "tells_of" (sp_Book_tells_of K) [] E0 (tVar 0) (tCons (tVar 4) (tCons (tVar 2) tNil))) (tMeth (He.ga K "Book") "tells_of" (sp_Book_tells_of K) [] E0 (tVar 1) (tCons (tVar 4) (tCons (tVar 2) tNil)))))
  (tRet (tTup (tCons (tVar 4) (tCons (tVar 2) tNil))))
  tNext)))
  (tRet (tC .non))))
theorem pure_unlike {K : PySem.W.Frag} {x y : V} {H : Hp} {Q : VK} {E : XK} (h : sp_unlike K [x, y] H Q E) : t_unlike K { nx := fun _ H' => Q .non H', rt := Q } [some x, some y, none, none, none] H := by
  obtain ⟨x, y, e, cf, cb, rs, ss, b1, b2, g1, g2, l1, l2, q1, q2⟩ := h
  cases e
  unfold t_unlike
  walk_at "ss"
  rename_i p0 hp0
  refine g_bounds_of cf cb (SqL.of upd_same) (b1.same (same_new hp0)) (b2.same (same_new hp0)) l1 l2 fun out l H1 s1 fl hl up ll mem => ?_
  have S1 : Same H H1 := (same_new hp0).trans s1
  walk_at "ss"
  refine lc_r (walk_list (K := K) (a := l) (xs := out.map V.int)) (fun _ v (d : Int) => v = V.int d) (fun _ _ _ _ _ h => h) (fun i => (out[i]?).bind fun d => if d ≤ 1000000 then some d else none) (by rw [List.length_map]; omega) (fun H' s => SqL.of (s _ _ hl)) ?_ ?_
  · rintro D j x0 H4 H5 N hD hj s4 ⟨rfl, hx⟩ hy hn
    obtain ⟨d, rfl, hd⟩ := map_get hx
    rw [hd, Option.bind_some] at hy hn
    walk_at "ss"
    refine ite_d (fun z => ?_) fun z => ?_
    · walk_at "ss"
      exact hy _ _ _ (if_pos z) (Same.refl _) rfl
    · exact hn _ (if_neg z) (Same.refl _)
  intro D H4 zs hD s4 h4 r4
  have ez : zs = (out.filter fun d => decide (d ≤ 1000000)).map V.int := by
    rw [List.length_map, range_flt out (fun d => if d ≤ 1000000 then some d else none), flt_le] at r4
    exact paired_int r4
  have ok := daysOk_bnd g1 g2 up mem
  subst ez
  generalize (out.filter fun d => decide (d ≤ 1000000)) = ds at h4 ok
  have S4 := S1.trans s4
  have b14 := b1.same S4
  have b24 := b2.same S4
  clear up mem hl ll r4 b1 b2 s4 S1 s1 fl hD hp0
  walk_at "ss"
  refine ⟨_, rfl, ⟨_, CFR.words cf _⟩, ?_⟩
  refine for_tup (K := K) (a := He.ga K "WORDS") (xs := allW.map fun (w : Wd) => V.str w.word) (fun j σ H' => ∃ v2 v4, σ = [some x, some y, v2, some (.ref D), v4] ∧ Same H H' ∧ BkAt K H' x rs ∧ BkAt K H' y ss ∧ H' D = some (.lst (ds.map V.int)) ∧ ∀ w ∈ allW.take j, (leastO 1000001 (difB rs ss w)).map (fun d => (w, d)) = none) ⟨_, _, rfl, S4, b14, b24, h4, by simp⟩ (fun i σ H' _ _ => CFR.words cf H') ?_ ?_
  · rintro j wv σ H1 hj ⟨v2, v4, rfl, s1, b1, b2, h1, no⟩
    rw [List.getElem?_map] at hj
    obtain ⟨w, hw, rfl⟩ : ∃ w, allW[j]? = some w ∧ V.str w.word = wv := by
      cases e : allW[j]? with
      | none => rw [e] at hj; cases hj
      | some w => rw [e] at hj; exact ⟨w, rfl, Option.some.inj hj⟩
    walk_at "ss"
    refine for_list (K := K) (a := D) (xs := ds.map V.int) (fun i σ H' => ∃ v2, σ = [some x, some y, v2, some (.ref D), some (.str w.word)] ∧ Same H H' ∧ BkAt K H' x rs ∧ BkAt K H' y ss ∧ H' D = some (.lst (ds.map V.int)) ∧ ∀ d ∈ ds.take i, difB rs ss w d = false) ⟨_, rfl, s1, b1, b2, h1, by simp⟩ (fun i σ H' _ h => by obtain ⟨_, _, _, _, _, h, _⟩ := h; exact SqL.of h) ?_ ?_
    · clear s1 b1 b2 h1
      rintro i dv σ H1 hi ⟨v2, rfl, s1, ⟨F1, b1⟩, ⟨F2, b2⟩, h1, nd⟩
      obtain ⟨d, rfl, hd⟩ := map_get hi
      walk_at "ss"
      rename_i x1 Ha sa hx1 x2 Hb sb hx2
      refine g_neD_tells (td_same sb hx1) hx2 g1 g2 ?_
      have S1 := s1.trans (sa.trans sb)
      refine ⟨_, rfl, ?_⟩
      refine ite_b (fun z => ?_) fun z => ?_
      · walk_at "ss"
        rename_i p9 hp9
        refine q2 w d ?_ p9 _ (sm_new hp9 S1) (fr_of hp9 S1) upd_same
        refine find_first hw no ?_
        rw [← ok.find w, find_getI hd nd z]
        rfl
      · walk_at "ss"
        refine ⟨_, rfl, S1, ⟨F1, bk_same (sa.trans sb) b1⟩, ⟨F2, bk_same (sa.trans sb) b2⟩, (sa.trans sb) _ _ h1, fun d' hd' => ?_⟩
        rw [List.take_add_one, hd] at hd'
        rcases List.mem_append.mp hd' with h | h
        · exact nd d' h
        · obtain rfl := List.mem_singleton.mp h
          exact z
    · rintro σ H1 ⟨v2, rfl, s1, b1, b2, h1, nd⟩
      walk_at "ss"
      refine ⟨_, _, rfl, s1, b1, b2, h1, fun w' hw' => ?_⟩
      rw [List.take_add_one, hw] at hw'
      rcases List.mem_append.mp hw' with h | h
      · exact no w' h
      · obtain rfl := List.mem_singleton.mp h
        rw [List.length_map, List.take_length] at nd
        rw [← ok.find w', List.find?_eq_none.mpr fun d hd => by rw [nd d hd]; decide]
        rfl
  · rintro σ H1 ⟨v2, v4, rfl, s1, b1, b2, h1, no⟩
    walk_at "ss"
    exact q1 (List.findSome?_eq_none_iff.mpr fun w hw => no w (by rw [List.length_map, List.take_length]; exact hw)) _ s1
/-! YTp: tidied lists of rules. -/
open PySem PySem.Spec PyProof.Rows L2
theorem eqv_i (i j : Int) : PyData.eqv (.int i) (.int j) = decide (i = j) := by
  have := eqv_ints [i] [j]
  simp [PyData.eqvAll] at this
  exact this
/-- worths of one word: told alike just where they are the same -/
theorem eqv_fit {w : Wd} {d e : PyData} (h : fitsD w d = true) (g : fitsD w e = true) : PyData.eqv d e = true ↔ d = e := by
  have ii : ∀ i j : Int, PyData.eqv (.int i) (.int j) = true ↔ (PyData.int i) = .int j := fun i j => by
    rw [eqv_i]
    simp
  have no : ∀ {x : PyData}, isNone x = true → x = .none := fun {x} h => by cases x <;> first | rfl | cases h
  have co : isCoins d = true → isCoins e = true → (PyData.eqv d e = true ↔ d = e) := fun h g => by
    obtain ⟨i, rfl, -⟩ := isCoins_b h
    obtain ⟨j, rfl, -⟩ := isCoins_b g
    exact ii i j
  have nn : isNights d = true → isNights e = true → (PyData.eqv d e = true ↔ d = e) := fun h g => by
    obtain ⟨i, rfl, -⟩ := isNights_b h
    obtain ⟨j, rfl, -⟩ := isNights_b g
    exact ii i j
  have bo : isBool d = true → isBool e = true → (PyData.eqv d e = true ↔ d = e) := fun h g => by
    cases d with
    | bool i => cases e with
      | bool j => cases i <;> cases j <;> simp [PyData.eqv]
      | _ => cases g
    | _ => cases h
  cases w with
  | price =>
    have h' : (isNone d || isCoins d) = true := h
    have g' : (isNone e || isCoins e) = true := g
    rcases Bool.or_eq_true_iff.mp h' with h | h
    · rw [no h]
      rcases Bool.or_eq_true_iff.mp g' with g | g
      · rw [no g]
        simp [PyData.eqv]
      · obtain ⟨j, rfl, -⟩ := isCoins_b g
        simp [PyData.eqv]
    · rcases Bool.or_eq_true_iff.mp g' with g | g
      · rw [no g]
        obtain ⟨j, rfl, -⟩ := isCoins_b h
        simp [PyData.eqv]
      · exact co h g
  | come => exact bo h g
  | go => exact bo h g
  | least => exact nn h g
  | most => exact nn h g
  | fee => exact co h g
  | deal =>
    rcases isDeal_ex h with rfl | ⟨m, f, rfl, -⟩
    · rcases isDeal_ex g with rfl | ⟨m', f', rfl, -⟩
      · simp [PyData.eqv]
      · simp [PyData.eqv]
    · rcases isDeal_ex g with rfl | ⟨m', f', rfl, -⟩
      · simp [PyData.eqv]
      · rw [PyData.eqv]
        have := eqv_ints [m, f] [m', f']
        simp only [List.map_cons, List.map_nil] at this
        rw [this, decide_eq_true_eq]
        simp
/-- two lists of rules tell the same of each word and day -/
def Alike (rs ss : List RuleD) : Prop := ∀ w d, 0 ≤ d → d ≤ 1000000 → tellsD rs w d = tellsD ss w d
theorem mem_allW (w : Wd) : w ∈ allW := by cases w <;> simp [allW]
theorem dif_iff {rs ss : List RuleD} (g1 : ∀ r ∈ rs, RuleD.good r) (g2 : ∀ r ∈ ss, RuleD.good r) (w : Wd) (d : Int) : difB rs ss w d = false ↔ tellsD rs w d = tellsD ss w d := by
  unfold difB
  rw [← eqv_fit (tells_fits g1 w d) (tells_fits g2 w d)]
  simp
theorem unl_none {rs ss : List RuleD} (g1 : ∀ r ∈ rs, RuleD.good r) (g2 : ∀ r ∈ ss, RuleD.good r) : unlO rs ss = none ↔ Alike rs ss := by
  unfold unlO
  rw [List.findSome?_eq_none_iff]
  refine ⟨fun h w d h0 h1 => ?_, fun h w _ => ?_⟩
  · have := h w (mem_allW w)
    rw [Option.map_eq_none_iff] at this
    exact (dif_iff g1 g2 w d).mp (least_none this h0 (by omega))
  · rw [Option.map_eq_none_iff]
    refine List.find?_eq_none.mpr fun d hd => ?_
    obtain ⟨i, hi, rfl⟩ := List.mem_map.mp hd
    have := List.mem_range.mp hi
    rw [(dif_iff g1 g2 w _).mpr (h w _ (by omega) (by omega))]
    decide
theorem Alike.trans {rs ss ts : List RuleD} (h : Alike rs ss) (g : Alike ss ts) : Alike rs ts := fun w d a b => (h w d a b).trans (g w d a b)
theorem Alike.refl (rs : List RuleD) : Alike rs rs := fun _ _ _ _ => rfl
/-- one of a list's rules left out -/
def delR {α : Type} (l : List α) (k : Nat) : List α := l.take k ++ l.drop (k + 1)
theorem del_len {α : Type} {l : List α} {k : Nat} (h : k < l.length) : (delR l k).length = l.length - 1 := by
  unfold delR
  rw [List.length_append, List.length_take, List.length_drop]
  omega
theorem mem_del {α : Type} {l : List α} {k : Nat} {x : α} (h : x ∈ delR l k) : x ∈ l := by
  rcases List.mem_append.mp h with h | h
  · exact List.mem_of_mem_take h
  · exact List.mem_of_mem_drop h
theorem del_sub {α : Type} (l : List α) (k : Nat) : (delR l k).Sublist l := by
  have := List.Sublist.append (List.Sublist.refl (l.take k)) (List.drop_sublist 1 (l.drop k))
  rw [List.drop_drop, List.take_append_drop] at this
  exact this
/-- rules that no day of which is d -/
def NoCov (s : List RuleD) (w : Wd) (d : Int) : Prop := ∀ r ∈ s, ¬ (r.w = w ∧ r.f ≤ d ∧ d ≤ r.l)
theorem due_app (a s : List RuleD) (w : Wd) (d : Int) : dueD (a ++ s) w d = s.foldl (fun x r => if r.w = w ∧ r.f ≤ d ∧ d ≤ r.l then r.d else x) (dueD a w d) := by
  unfold dueD
  rw [List.foldl_append]
theorem fold_no {s : List RuleD} {w : Wd} {d : Int} (h : NoCov s w d) (u : PyData) : s.foldl (fun x r => if r.w = w ∧ r.f ≤ d ∧ d ≤ r.l then r.d else x) u = u := by
  induction s generalizing u with
  | nil => rfl
  | cons r s ih =>
    rw [List.foldl_cons, if_neg (h r List.mem_cons_self)]
    exact ih (fun r' hr' => h r' (List.mem_cons_of_mem _ hr')) u
theorem fold_any {s : List RuleD} {w : Wd} {d : Int} (h : ¬ NoCov s w d) (u v : PyData) : s.foldl (fun x r => if r.w = w ∧ r.f ≤ d ∧ d ≤ r.l then r.d else x) u = s.foldl (fun x r => if r.w = w ∧ r.f ≤ d ∧ d ≤ r.l then r.d else x) v := by
  induction s generalizing u v with
  | nil => exact absurd (fun _ h => by cases h) h
  | cons r s ih =>
    rw [List.foldl_cons, List.foldl_cons]
    by_cases z : r.w = w ∧ r.f ≤ d ∧ d ≤ r.l
    · rw [if_pos z, if_pos z]
    · rw [if_neg z, if_neg z]
      refine ih (fun y => h fun r' hr' => ?_) u v
      rcases List.mem_cons.mp hr' with rfl | hr'
      · exact z
      · exact y r' hr'
theorem tells_app_no {a s : List RuleD} {w : Wd} {d : Int} (h : NoCov s w d) : tellsD (a ++ s) w d = tellsD a w d := by
  rw [← due_tells, due_app, fold_no h, due_tells]
theorem tells_app_any {a b s : List RuleD} {w : Wd} {d : Int} (h : ¬ NoCov s w d) : tellsD (a ++ s) w d = tellsD (b ++ s) w d := by
  rw [← due_tells, ← due_tells, due_app, due_app]
  exact fold_any h _ _
/-- a rule that is needed stays needed where a newer one is left out -/
theorem need_keep {rs l : List RuleD} {k at' : Nat} (ha : Alike rs l) (hk : k < at') (h : ¬ Alike rs (delR l k)) : ¬ Alike rs (delR (delR l at') k) := by
  intro g
  refine h fun w d h0 h1 => ?_
  by_cases z : tellsD rs w d = tellsD (delR l k) w d
  · exact z
  · exfalso
    have no : NoCov (l.drop (k + 1)) w d := by
      by_cases y : NoCov (l.drop (k + 1)) w d
      · exact y
      · refine absurd ?_ z
        rw [ha w d h0 h1]
        have e : l = l.take (k + 1) ++ l.drop (k + 1) := (List.take_append_drop _ _).symm
        unfold delR
        conv => lhs; rw [e]
        exact tells_app_any y
    have no2 : NoCov ((delR l at').drop (k + 1)) w d := fun r hr => by
      refine no r ?_
      unfold delR at hr
      rw [List.drop_append] at hr
      rcases List.mem_append.mp hr with hr | hr
      · rw [List.drop_take] at hr
        exact List.mem_of_mem_take hr
      · have hr := List.mem_of_mem_drop hr
        have : l.drop (at' + 1) = (l.drop (k + 1)).drop (at' - k) := by rw [List.drop_drop]; congr 1; omega
        rw [this] at hr
        exact List.mem_of_mem_drop hr
    have et : (delR l at').take k = l.take k := by
      by_cases y : k ≤ l.length
      · unfold delR
        rw [List.take_append_of_le_length (by rw [List.length_take]; omega), List.take_take, Nat.min_eq_left (by omega)]
      · unfold delR
        rw [List.take_of_length_le (show l.length ≤ at' by omega), List.drop_of_length_le (show l.length ≤ at' + 1 by omega), List.append_nil]
    have := g w d h0 h1
    unfold delR at this z
    rw [tells_app_no (a := l.take k) no] at z
    have e2 : tellsD ((delR l at').take k ++ (delR l at').drop (k + 1)) w d = tellsD ((delR l at').take k) w d := tells_app_no no2
    unfold delR at e2 et
    rw [e2, et] at this
    exact z this
/-- tidying: from a place on -/
def tidyF (rs : List RuleD) : Nat → Nat → List RuleD → List RuleD
  | 0, _, l => l
  | n + 1, k, l => if (unlO rs (delR l k)).isNone then tidyF rs n k (delR l k) else tidyF rs n (k + 1) l
def tidyR (rs : List RuleD) : List RuleD := tidyF rs rs.length 0 rs
/-- what is so of the rules kept while the places up to k were looked at -/
structure TidI (rs : List RuleD) (k : Nat) (l : List RuleD) : Prop where
  sub : l.Sublist rs
  alike : Alike rs l
  need : ∀ j, j < k → j < l.length → ¬ Alike rs (delR l j)
theorem tidy_all {rs : List RuleD} (g : ∀ r ∈ rs, RuleD.good r) : ∀ (n k : Nat) (l : List RuleD), l.length ≤ k + n → TidI rs k l → TidI rs (tidyF rs n k l).length (tidyF rs n k l)
  | 0, k, l, h, I => ⟨I.sub, I.alike, fun j _ (h2 : j < l.length) => I.need j (by omega) h2⟩
  | n + 1, k, l, h, I => by
    have gd : ∀ r ∈ delR l k, RuleD.good r := fun r hr => g r (I.sub.mem (mem_del hr))
    unfold tidyF
    cases e : (unlO rs (delR l k)).isNone with
    | true =>
      rw [if_pos rfl]
      have al := (unl_none g gd).mp (Option.isNone_iff_eq_none.mp e)
      by_cases z : k < l.length
      · refine tidy_all g n k _ (by rw [del_len z]; omega) ⟨(del_sub l k).trans I.sub, al, fun j h1 h2 => need_keep I.alike h1 (I.need j h1 (by omega))⟩
      · have ed : delR l k = l := by
          unfold delR
          rw [List.take_of_length_le (by omega), List.drop_of_length_le (by omega), List.append_nil]
        rw [ed]
        exact tidy_all g n k l (by omega) I
    | false =>
      rw [if_neg (by decide)]
      refine tidy_all g n (k + 1) l (by omega) ⟨I.sub, I.alike, fun j h1 h2 => ?_⟩
      by_cases z : j = k
      · rw [z]
        intro y
        rw [(unl_none g gd).mpr y] at e
        cases e
      · exact I.need j (by omega) h2
theorem tidy_ok {rs : List RuleD} (g : ∀ r ∈ rs, RuleD.good r) : TidI rs (tidyR rs).length (tidyR rs) := tidy_all g rs.length 0 rs (by omega) ⟨List.Sublist.refl _, Alike.refl _, fun j h => by omega⟩
theorem tidy_good {rs : List RuleD} (g : ∀ r ∈ rs, RuleD.good r) : ∀ r ∈ tidyR rs, RuleD.good r := fun r hr => g r ((tidy_ok g).sub.mem hr)
/-! YTd: a tidied book. -/
open PySem PySem.Spec PyProof.Rows L2
def sp_tidied (K : PySem.W.Frag) : Sp := Sp1 fun x H Q E => CFR K ∧ CFB K ∧ ∃ (rs : List RuleD), BkAt K H x rs ∧ (∀ r ∈ rs, RuleD.good r) ∧ rs.length ≤ 24 ∧ ∀ v F H', Same H H' → BookAt K H' F v (tidyR rs) → (∀ p ∈ F, Fr H p) → Q v H'
theorem g_tidied {K : PySem.W.Frag} {x : V} {rs : List RuleD} {H : Hp} {Q : VK} {E : XK} (cf : CFR K) (cb : CFB K) (b : BkAt K H x rs) (g : ∀ r ∈ rs, RuleD.good r) (l : rs.length ≤ 24) (q : ∀ v F H', Same H H' → BookAt K H' F v (tidyR rs) → (∀ p ∈ F, Fr H p) → Q v H') : sp_tidied K ([x] ++ []) H Q E :=
  ⟨_, rfl, cf, cb, rs, b, g, l, q⟩
def t_tidied (K : PySem.W.Frag) : TS :=
  (tSeq (tAsg (tMeth (He.ga K "Book") "rules" (sp_Book_rules K) [] E0 (tVar 0) tNil) (gName 1))
  (tSeq (tAsg (tC (.int 0)) (gName 2))
  (tSeq (tWhile (tTest (tOp rLt (tVar 2) (tCB (rLen K) (tCons (tVar 1) tNil))))
  (tSeq (tAsg (tOp rCat (tSl (rSlL K) (tVar 1) tNoPart (tPart (tVar 2))) (tSl (rSlL K) (tVar 1) (tPart (tOp rAdd (tVar 2) (tC (.int 1)))) tNoPart)) (gName 3))
  (tIfS (tTest (tOp rIsN (tCall (sp_unlike K) [] E0 (tCons (tVar 0) (tCons (tMake (He.ga K "Book") (sp_Book_init K) [] E0 (tCons (tVar 3) tNil)) tNil))) (tC .non)))
  (tAsg (tVar 3) (gName 1))
  (tAsg (tOp rAdd (tVar 2) (tC (.int 1))) (gName 2)))))
  (tRet (tMake (He.ga K "Book") (sp_Book_init K) [] E0 (tCons (tVar 1) tNil))))))
theorem pure_tidied {K : PySem.W.Frag} {x : V} {H : Hp} {Q : VK} {E : XK} (h : sp_tidied K [x] H Q E) : t_tidied K { nx := fun _ H' => Q .non H', rt := Q } [some x, none, none, none] H := by
  obtain ⟨x, e, cf, cb, rs, ⟨F0, b0⟩, g, l, q⟩ := h
  cases e
  unfold t_tidied
  walk_at "ss"
  rename_i p1 H1 ys s1 f1 h1 r1
  refine while_m (fun m σ H' => ∃ (p : Addr) (ys : List V) (k : Nat) (l : List RuleD) (v3 : Option V), σ = [some x, some (.ref p), some (.int (k : Nat)), v3] ∧ Same H H' ∧ H' p = some (.lst ys) ∧ Rus H' ys l ∧ l.Sublist rs ∧ tidyF rs (l.length - k) k l = tidyR rs ∧ m = l.length - k)
    ⟨p1, ys, 0, rs, _, rfl, s1, h1, r1, List.Sublist.refl _, rfl, rfl⟩ ?_ ?_
  · rintro m σ H2 ⟨p, ys, k, l2, v3, rfl, s2, h2, r2, sub, te, rfl⟩
    have l2' := sub.length_le
    have yl := ru_len r2
    have g2 : ∀ r ∈ l2, RuleD.good r := fun r hr => g r (sub.mem hr)
    walk_at "ss"
    refine ite_d (fun z => ?_) fun z => ?_
    · have k1 : k < l2.length := by omega
      walk_at "ss"
      rename_i pa hpa pb hpb pc hpc
      have sc : Same H2 (upd (upd (upd H2 pa (.lst (ys.take ((k : Nat) : Int).toNat))) pb (.lst (ys.drop (((k : Nat) : Int) + 1).toNat))) pc (.lst (ys.take ((k : Nat) : Int).toNat ++ ys.drop (((k : Nat) : Int) + 1).toNat))) := (same_new hpa).trans ((same_new hpb).trans (same_new hpc))
      have hc : (upd (upd (upd H2 pa (.lst (ys.take ((k : Nat) : Int).toNat))) pb (.lst (ys.drop (((k : Nat) : Int) + 1).toNat))) pc (.lst (ys.take ((k : Nat) : Int).toNat ++ ys.drop (((k : Nat) : Int) + 1).toNat))) pc = some (.lst (delR ys k)) := by
        rw [upd_same]
        unfold delR
        rw [Int.toNat_natCast, show (((k : Nat) : Int) + 1).toNat = k + 1 by omega]
      generalize upd (upd (upd H2 pa (.lst (ys.take ((k : Nat) : Int).toNat))) pb (.lst (ys.drop (((k : Nat) : Int) + 1).toNat))) pc (.lst (ys.take ((k : Nat) : Int).toNat ++ ys.drop (((k : Nat) : Int) + 1).toNat)) = H3 at sc hc ⊢
      have r3 : Rus H3 (delR ys k) (delR l2 k) := ru_app (ru_take (ru_same sc r2)) (ru_drop (ru_same sc r2))
      have gd : ∀ r ∈ delR l2 k, RuleD.good r := fun r hr => g2 r (mem_del hr)
      have ld := del_len k1
      have sd := (del_sub l2 k).trans sub
      clear hpa hpb hpc
      refine g_mkBook cf cb rfl (.inr ⟨pc, rfl, SqL.of hc⟩) r3 (by omega) gd fun v F H4 s4 bk f4 => ?_
      have S4 := s2.trans (sc.trans s4)
      have ef : tidyF rs (l2.length - k) k l2 = if (unlO rs (delR l2 k)).isNone then tidyF rs (l2.length - k - 1) k (delR l2 k) else tidyF rs (l2.length - k - 1) (k + 1) l2 := by
        obtain ⟨n, hn⟩ : ∃ n, l2.length - k = n + 1 := ⟨l2.length - k - 1, by omega⟩
        rw [hn]
        rfl
      rw [ef] at te
      walk_at "ss"
      refine g_unlike cf cb ⟨F0, bk_same S4 b0⟩ ⟨F, bk⟩ g gd (by omega) (by omega) (fun e H5 s5 => ?_) fun w d e p9 H5 s5 f5 h5 => ?_
      · rw [e] at te
        walk_at "ss"
        refine ite_t (by decide) ?_
        walk_at "ss"
        refine ⟨(delR l2 k).length - k, by omega, pc, _, k, delR l2 k, _, rfl, S4.trans s5, (s4.trans s5) _ _ hc, ru_same (s4.trans s5) r3, sd, ?_, rfl⟩
        rw [ld, show l2.length - 1 - k = l2.length - k - 1 by omega]
        exact te
      · rw [e] at te
        walk_at "ss"
        refine ite_f (decide_eq_false (by intro z; cases z)) ?_
        walk_at "ss"
        have s25 := sc.trans (s4.trans s5)
        refine ⟨l2.length - (k + 1), by omega, p, ys, k + 1, l2, _, rfl, s2.trans s25, s25 _ _ h2, ru_same s25 r2, sub, ?_, rfl⟩
        rw [show l2.length - (k + 1) = l2.length - k - 1 by omega]
        exact te
    · have e0 : l2.length - k = 0 := by omega
      rw [e0] at te
      have te : l2 = tidyR rs := te
      subst te
      walk_at "ss"
      refine g_mkBook cf cb rfl (.inr ⟨p, rfl, SqL.of h2⟩) r2 (by omega) g2 fun v F H4 s4 bk f4 => ?_
      exact q v F H4 (s2.trans s4) bk fun p hp => fr_of (f4 p hp) s2
  · intro σ H Q Q' h q
    obtain ⟨v, hv, w, hw, p, ys, e1, sq, i, j, e2, e3, k, e4, r⟩ := q
    exact ⟨v, hv, w, hw, p, ys, e1, sq, i, j, e2, e3, k, e4, h _ _ r⟩
/-! YXk: an inn's book tidied. -/
open PySem PySem.Spec PyProof.Rows L2
def spx_Inn_tidy (K : PySem.W.Frag) : Sp := Sp2 fun v y H Q E => CFJ K ∧ CFR K ∧ CFB K ∧ exBare "NoName" K = true ∧ ∃ (M W : List Addr) (m : Int) (st : Ist) (pa : List Ist) (n : Str), IsAt K H M W v m st pa ∧ y = .str n ∧ pa.length ≤ 1000 ∧
  (lookS st.sh n = none → E (.ref (He.ga K "NoName")) none H) ∧ (∀ rs, lookS st.sh n = some rs → DoneQ K H M W v m (layS st n (tidyR rs)) (pa ++ [st]) (Q .non))
def x_Inn_tidy (K : PySem.W.Frag) (E : XK) : TS :=
  (tSeq (tDrop (tMethX (He.ga K "Inn") "need_name" (spx_Inn_need_name K) [] (XW E) (tVar 0) (tCons (tVar 1) tNil)))
  (tSeq (tAsg (tCall (sp_tidied K) [] E0 (tCons (tDGet (tFld K (tVar 0) "shelf") (tVar 1)) tNil)) (gName 2))
  (tSeq (tDrop (tMeth (He.ga K "Inn") "keep" (sp_Inn_keep K) [] E0 (tVar 0) tNil))
  (sDPut (tFld K (tVar 0) "shelf") (tVar 1) (tVar 2)))))
theorem purex_Inn_tidy {K : PySem.W.Frag} {v y : V} {H : Hp} {Q : VK} {E : XK} (h : spx_Inn_tidy K [v, y] H Q E) : x_Inn_tidy K E { nx := fun _ H' => Q .non H', rt := Q } [some v, some y, none] H := by
  obtain ⟨v, y, e, ci, c, cb, cn, M, W, m, st, pa, n, J, rfl, lp, x, q⟩ := h
  cases e
  unfold x_Inn_tidy
  walk_at "ss"
  refine g_jmethX (n := 0) rfl J (by decide) ?_
  walk_at "ss"
  refine gx_jneed ci cn J (fun l => ?_) x
  obtain ⟨a, dx, s, t, p, ps, rfl, rfl, I⟩ := J
  obtain ⟨kvs, hs, hsh⟩ := I.shelf
  rcases sh_get n hsh with ⟨e, -⟩ | ⟨rs, v, F, e, hm, ev, b, fW⟩
  · exact absurd e l
  walk_at "ss"
  refine g_jfld ci rfl I.obj (by decide) rfl ?_
  walk_at "ss"
  refine ⟨s, v, rfl, .inl ⟨kvs, .inr n, .inl hs, rfl, ev.symm⟩, ?_⟩
  walk_at "ss"
  have ok1 := I.ok.sh.len _ hm
  have ok2 := I.ok.sh.good _ hm
  dsimp only at ok1 ok2
  refine g_tidied c cb ⟨F, b⟩ ok2 ok1 fun w F3 H2 s2 b3 f3 => ?_
  have I2 := I.same s2
  walk_at "ss"
  refine g_jrobj I2.in (by decide) ?_
  walk_at "ss"
  refine g_jkeep ci I2.in lp fun H3 M3 W3 k3 J3 n3 => ?_
  walk_at "ss"
  have M3n : ∀ x ∈ M3, x ∉ F3 := fun x hx hF => by
    obtain ⟨o, ho⟩ := b3.known x hF
    rcases n3.1 x hx with h | h
    · obtain ⟨o', e', -⟩ := I.mem x h
      rw [show H x = none from f3 x hF] at e'
      cases e'
    · rw [show H2 x = none from h] at ho
      cases ho
  have b4 : BookAt K H3 F3 w (tidyR rs) := bk_mut k3 I2.in.muts (fun x hx hm => by
    obtain ⟨o', e', -⟩ := I.mem x hm
    rw [show H x = none from f3 x hx] at e'
    cases e') b3
  obtain ⟨a4, dx4, s4, t4, p4, ps4, ea, rfl, I4⟩ := J3
  cases ea
  obtain ⟨kv4, hs4, hsh4⟩ := I4.shelf
  refine g_jfld ci rfl I4.obj (by decide) rfl ?_
  walk_at "ss"
  have kl := sh_len hsh4
  have fw := I.ok.sh.few
  have lt := (tidy_ok ok2).sub.length_le
  refine ⟨s4, _, rfl, .inl ⟨kv4, .inr n, hs4, rfl, by rw [sizeLine_eq]; omega, rfl⟩, ?_⟩
  obtain ⟨r1, r2, r3⟩ := I4.put hs4 (fun b o e nb => k3 _ _ (s2 _ _ e) nb) (n3.same s2) b4 f3 (fun x hx hm => M3n x hm hx) (shok_put I.ok.sh hm (by omega) (tidy_good ok2))
  exact q rs e _ _ _ r1 r2 r3
/-! YOk: texts whose signs are signs; texts within data. -/
open PySem PySem.Spec PyProof.Rows L2
/-- what is shown of it is a text -/
def Sok (d : PyData) : Prop := PyData.strOk d.shown = true
/-! YXu: the deeds of an inn, what each tells (printed by ydone2.py). -/
open PySem PySem.Spec PyProof.Rows L2
abbrev ED : List Str := ["NoDeed", "NoName", "NoRule", "NoTaken", "NotSold", "Off", "TooMany"]
structure CJd (K : PySem.W.Frag) : Prop where
  ci : CFJ K
  cl : CFF K
  cf : CFR K
  cb : CFB K
  ce : exErrs ED K = true
  cn : exInit "NoRule" "number" K = true
  co : exInit "Off" "days" K = true
  cm : exBare "TooMany" K = true
  c1 : exBare "NoName" K = true
  c2 : exBare "NoTaken" K = true
  c3 : exBare "NoDeed" K = true
/-- deeds -/
inductive Dd where
  | take (c g : Int)
  | back (k : Int)
  | lay (n : Str) (ds : List PyData)
  | tidy (n : Str)
  | undo
def DdAt (H : Hp) (P : List Addr) (t : Addr) : Dd → Prop
  | .take c g => ∃ s, H t = some (.tup [.str "take", .ref s]) ∧ H s = some (.tup [.int c, .int g])
  | .back k => H t = some (.tup [.str "back", .int k])
  | .lay n ds => ∃ (p : Addr) (xs : List V) (b : Int), H t = some (.tup [.str "lay", .str n, .ref p, .int b]) ∧ H p = some (.lst xs) ∧ Tds H xs ds ∧ p ∈ P
  | .tidy n => H t = some (.tup [.str "tidy", .str n])
  | .undo => H t = some (.tup [.str "undo"])
theorem DdAt.mut {H H' : Hp} {L P : List Addr} {t : Addr} {d : Dd} (k : Kp L H H') (m : Muts H L) (n : ∀ x ∈ P, x ∉ L) (h : DdAt H P t d) : DdAt H' P t d := by
  have tk := tk_mut k m
  cases d with
  | take c g => obtain ⟨s, h1, h2⟩ := h; exact ⟨s, tk _ _ h1, tk _ _ h2⟩
  | back k => exact tk _ _ h
  | lay z ds => obtain ⟨p, xs, b, h1, h2, h3, h4⟩ := h; exact ⟨p, xs, b, tk _ _ h1, k _ _ h2 (n p h4), tds_tk tk h3, h4⟩
  | tidy z => exact tk _ _ h
  | undo => exact tk _ _ h
theorem tds_ats {H : Hp} : ∀ {xs : List V} {ds : List PyData}, Tds H xs ds → Paired (At H []) xs ds
  | _, _, .nil => .nil
  | _, _, .cons h t => .cons (Td.at0 h) (tds_ats t)
def DdOk (st : Ist) (pa : List Ist) : Dd → Prop
  | .take c g => StayB c g ∧ st.co < 60
  | .lay n ds => ds.length ≤ 1000
  | _ => True
/-- the first that is no rule -/
def badI (ds : List PyData) : Option Nat := ds.findIdx? fun d => (asRule d).isNone
theorem bad_some {ds : List PyData} {i : Nat} {d : PyData} {vs : List RuleD} (e : ds[i]? = some d) (n : asRule d = none) (a : AllR (ds.take i) vs) : badI ds = some i := by
  unfold badI
  rw [List.findIdx?_eq_some_iff_getElem]
  have hi := (List.getElem?_eq_some_iff.mp e).1
  have he := (List.getElem?_eq_some_iff.mp e).2
  refine ⟨hi, by rw [he, n]; rfl, fun j hj z => ?_⟩
  have h2 : some (asRule ds[j]) = ((ds.take i).map asRule)[j]? := by
    rw [List.getElem?_map, List.getElem?_take_of_lt hj, List.getElem?_eq_getElem (by omega)]
    rfl
  rw [show (ds.take i).map asRule = vs.map some from a, List.getElem?_map] at h2
  cases hv : vs[j]? with
  | none => rw [hv] at h2; cases h2
  | some r =>
    rw [hv] at h2
    have := Option.some.inj h2
    rw [this] at z
    simp at z
theorem all_flt {ds : List PyData} {us : List RuleD} (a : AllR ds us) : ds.filterMap asRule = us := by
  have : (ds.map asRule).filterMap id = us := by
    rw [show ds.map asRule = us.map some from a, List.filterMap_map]
    simp
  rw [List.filterMap_map] at this
  exact this
theorem bad_none {ds : List PyData} {us : List RuleD} (a : AllR ds us) : badI ds = none := by
  unfold badI
  rw [List.findIdx?_eq_none_iff]
  intro d hd
  have : asRule d ∈ us.map some := by
    rw [← show ds.map asRule = us.map some from a]
    exact List.mem_map_of_mem hd
  obtain ⟨r, -, e⟩ := List.mem_map.mp this
  rw [← e]
  rfl
/-- what a deed tells, and what is behind it -/
def stepF (m : Int) (st : Ist) (pa : List Ist) : Dd → (Str × PyData) × Option (Ist × List Ist)
  | .take c g => if offB (nowB m st) c g = true then (("off", .list ((shutL (nowB m st) c g).map .int)), none) else (("ok", .int st.co), some (takeS m st c g, pa ++ [st]))
  | .back k => if (st.tk.any fun e => decide (e.no = k)) = true then (("ok", .none), some (giveS st k, pa ++ [st])) else (("no taken", .none), none)
  | .lay n ds => match lookS st.sh n with
    | none => (("no name", .none), none)
    | some rs => match badI ds with
      | some i => (("no rule", .int (i : Nat)), none)
      | none => if 24 < (ds.filterMap asRule).length ∨ 24 < rs.length + (ds.filterMap asRule).length then (("many", .none), none) else (("ok", .none), some (layS st n (rs ++ ds.filterMap asRule), pa ++ [st]))
  | .tidy n => match lookS st.sh n with
    | none => (("no name", .none), none)
    | some rs => (("ok", .none), some (layS st n (tidyR rs), pa ++ [st]))
  | .undo => match pa.getLast? with
    | none => (("no deed", .none), none)
    | some st' => (("ok", .none), some (st', pa.dropLast))
section
variable {m c g k : Int} {n : Str} {st st' : Ist} {pa pa' : List Ist} {ds : List PyData} {rs us vs : List RuleD} {i : Nat} {d : PyData}
theorem step_off (o : offB (nowB m st) c g = true) : stepF m st pa (.take c g) = ((("off" : Str), PyData.list ((shutL (nowB m st) c g).map .int)), none) := by
  unfold stepF
  dsimp only
  rw [if_pos o]
theorem step_take (o : offB (nowB m st) c g = false) : stepF m st pa (.take c g) = ((("ok" : Str), PyData.int st.co), some (takeS m st c g, pa ++ [st])) := by
  unfold stepF
  dsimp only
  rw [if_neg (by rw [o]; decide)]
theorem step_back_no (o : (st.tk.any fun e => decide (e.no = k)) = false) : stepF m st pa (.back k) = ((("no taken" : Str), PyData.none), none) := by
  unfold stepF
  dsimp only
  rw [if_neg (by rw [o]; decide)]
theorem step_back (o : (st.tk.any fun e => decide (e.no = k)) = true) : stepF m st pa (.back k) = ((("ok" : Str), PyData.none), some (giveS st k, pa ++ [st])) := by
  unfold stepF
  dsimp only
  rw [if_pos o]
theorem step_lay_no (e : lookS st.sh n = none) : stepF m st pa (.lay n ds) = ((("no name" : Str), PyData.none), none) := by
  unfold stepF
  dsimp only
  rw [e]
theorem step_lay_bad (e : lookS st.sh n = some rs) (a : ds[i]? = some d) (b : asRule d = none) (c : ∃ us, AllR (ds.take i) us) : stepF m st pa (.lay n ds) = ((("no rule" : Str), PyData.int (i : Nat)), none) := by
  obtain ⟨us, c⟩ := c
  unfold stepF
  dsimp only
  rw [e]
  dsimp only
  rw [bad_some a b c]
theorem step_lay_many (e : lookS st.sh n = some rs) (a : AllR ds us) (l : 24 < us.length ∨ 24 < rs.length + us.length) : stepF m st pa (.lay n ds) = ((("many" : Str), PyData.none), none) := by
  unfold stepF
  dsimp only
  rw [e]
  dsimp only
  rw [bad_none a, all_flt a]
  dsimp only
  rw [if_pos l]
theorem step_lay (e : lookS st.sh n = some rs) (a : AllR ds us) (l : us.length ≤ 24) (l2 : rs.length + us.length ≤ 24) : stepF m st pa (.lay n ds) = ((("ok" : Str), PyData.none), some (layS st n (rs ++ us), pa ++ [st])) := by
  unfold stepF
  dsimp only
  rw [e]
  dsimp only
  rw [bad_none a, all_flt a]
  dsimp only
  rw [if_neg (by omega)]
theorem step_tidy_no (e : lookS st.sh n = none) : stepF m st pa (.tidy n) = ((("no name" : Str), PyData.none), none) := by
  unfold stepF
  dsimp only
  rw [e]
theorem step_tidy (e : lookS st.sh n = some rs) : stepF m st pa (.tidy n) = ((("ok" : Str), PyData.none), some (layS st n (tidyR rs), pa ++ [st])) := by
  unfold stepF
  dsimp only
  rw [e]
theorem step_undo_no (e : pa = []) : stepF m st pa .undo = ((("no deed" : Str), PyData.none), none) := by
  subst e
  rfl
theorem step_undo (e : pa = pa' ++ [st']) : stepF m st pa .undo = ((("ok" : Str), PyData.none), some (st', pa')) := by
  subst e
  unfold stepF
  dsimp only
  rw [List.getLast?_concat, List.dropLast_concat]
end
/-- what is told, in the heap: days in a list of its own -/
def ResAt (H0 H : Hp) (r : V) (w : Str) (d : PyData) : Prop := ∃ t x, r = .ref t ∧ H t = some (.tup [.str w, x]) ∧ ((x = .non ∧ d = .none) ∨ (∃ i, x = .int i ∧ d = .int i) ∨ ∃ (p : Addr) (ns : List Int), x = .ref p ∧ H p = some (.lst (ns.map V.int)) ∧ Fr H0 p ∧ d = .list (ns.map .int))
def TellQ (K : PySem.W.Frag) (H : Hp) (M W : List Addr) (v : V) (m : Int) (x : (Str × PyData) × Option (Ist × List Ist)) (Q : VK) : Prop :=
  (x.2 = none → ∀ t H', Same H H' → ResAt H H' t x.1.1 x.1.2 → Q t H') ∧
  ∀ st' pa', x.2 = some (st', pa') → ∀ t H' M' W', Kp M H H' → IsAt K H' M' W' v m st' pa' → Nw M W M' W' H → ResAt H H' t x.1.1 x.1.2 → Q t H'
theorem tell_no {K : PySem.W.Frag} {H : Hp} {M W : List Addr} {v : V} {m : Int} {x : (Str × PyData) × Option (Ist × List Ist)} {w : Str} {d : PyData} {Q : VK} (q : TellQ K H M W v m x Q) (e : x = ((w, d), none)) : ∀ t H', Same H H' → ResAt H H' t w d → Q t H' := by
  subst e
  exact q.1 rfl
theorem tell_ok {K : PySem.W.Frag} {H : Hp} {M W : List Addr} {v : V} {m : Int} {x : (Str × PyData) × Option (Ist × List Ist)} {w : Str} {d : PyData} {st' : Ist} {pa' : List Ist} {Q : VK} (q : TellQ K H M W v m x Q) (e : x = ((w, d), some (st', pa'))) : ∀ t H' M' W', Kp M H H' → IsAt K H' M' W' v m st' pa' → Nw M W M' W' H → ResAt H H' t w d → Q t H' := by
  subst e
  exact q.2 _ _ rfl
def sp_Ldone (K : PySem.W.Frag) : Sp := Sp2 fun v y H Q E => CJd K ∧ ∃ (M W : List Addr) (m : Int) (st : Ist) (pa : List Ist) (t : Addr) (P : List Addr) (d : Dd), y = .ref t ∧ IsAt K H M W v m st pa ∧ pa.length ≤ 1000 ∧ DdAt H P t d ∧ DdOk st pa d ∧ TellQ K H M W v m (stepF m st pa d) Q
theorem g_Ldone {K : PySem.W.Frag} {M W : List Addr} {v : V} {m : Int} {st : Ist} {pa : List Ist} {t : Addr} {P : List Addr} {d : Dd} {H : Hp} {Q : VK} {E : XK} (cj : CJd K) (I : IsAt K H M W v m st pa) (l : pa.length ≤ 1000) (a : DdAt H P t d) (o : DdOk st pa d) (q : TellQ K H M W v m (stepF m st pa d) Q) : sp_Ldone K ([v, .ref t] ++ []) H Q E := ⟨_, _, rfl, cj, M, W, m, st, pa, t, P, d, rfl, I, l, a, o, q⟩
theorem g_idxB {K : PySem.W.Frag} {H : Hp} {Q : VK} {l : Addr} {bs : List Bool} {j : Nat} (h : SqL K H l (bs.map V.bl)) (a : bs[j]? = some true) (b : ∀ m, m < j → bs[m]? = some false) (q : Q (.int (j : Nat)) H) : rIndex K (.ref l) [.bl true] H Q :=
  ⟨l, _, .bl true, j, .bl true, rfl, rfl, h, rfl, by rw [List.all_map]; exact List.all_eq_true.mpr fun _ _ => rfl, by rw [List.getElem?_map, a]; rfl, rfl, fun m z hm hz => by
    rw [List.getElem?_map, b m hm] at hz
    cases hz
    rfl, q⟩
theorem res_non {H0 H : Hp} {t : Addr} {w : Str} (h : H t = some (.tup [.str w, .non])) : ResAt H0 H (.ref t) w .none := ⟨t, .non, rfl, h, .inl ⟨rfl, rfl⟩⟩
theorem res_int {H0 H : Hp} {t : Addr} {w : Str} {i : Int} (h : H t = some (.tup [.str w, .int i])) : ResAt H0 H (.ref t) w (.int i) := ⟨t, .int i, rfl, h, .inr (.inl ⟨i, rfl, rfl⟩)⟩
def t_Ldone (K : PySem.W.Frag) : TS :=
  (tTryK K (.ref (He.ga K "StayError")) 2 (fun W1 => (tSeq (tIfS (tTest (tOp rEq (tOp (rIxT K) (tVar 1) (tC (.int 0))) (tC (.str "take"))))
  (tRet (tTup (tCons (tC (.str "ok")) (tCons (tMethX (He.ga K "Inn") "take" (spx_Inn_take K) [] W1 (tVar 0) (tCons (tOp (rIxT K) (tVar 1) (tC (.int 1))) tNil)) tNil))))
  tNext)
  (tSeq (tIfS (tTest (tOp rEq (tOp (rIxT K) (tVar 1) (tC (.int 0))) (tC (.str "back"))))
  (tRet (tTup (tCons (tC (.str "ok")) (tCons (tMethX (He.ga K "Inn") "give_back" (spx_Inn_give_back K) [] W1 (tVar 0) (tCons (tOp (rIxT K) (tVar 1) (tC (.int 1))) tNil)) tNil))))
  tNext)
  (tSeq (tIfS (tTest (tOp rEq (tOp (rIxT K) (tVar 1) (tC (.int 0))) (tC (.str "lay"))))
  (tRet (tTup (tCons (tC (.str "ok")) (tCons (tMethX (He.ga K "Inn") "lay" (spx_Inn_lay K) [] W1 (tVar 0) (tCons (tOp (rIxT K) (tVar 1) (tC (.int 1))) (tCons (tOp (rIxT K) (tVar 1) (tC (.int 2))) tNil))) tNil))))
  tNext)
  (tSeq (tIfS (tTest (tOp rEq (tOp (rIxT K) (tVar 1) (tC (.int 0))) (tC (.str "tidy"))))
  (tRet (tTup (tCons (tC (.str "ok")) (tCons (tMethX (He.ga K "Inn") "tidy" (spx_Inn_tidy K) [] W1 (tVar 0) (tCons (tOp (rIxT K) (tVar 1) (tC (.int 1))) tNil)) tNil))))
  tNext)
  (tRet (tTup (tCons (tC (.str "ok")) (tCons (tMethX (He.ga K "Inn") "undo" (spx_Inn_undo K) [] W1 (tVar 0) tNil) tNil))))))))) (tSeq (tAsg (tLst (tCons (tCB (Y.rIsK K) (tCons (tVar 2) (tCons (tC (.ref (He.ga K "Off"))) tNil))) (tCons (tCB (Y.rIsK K) (tCons (tVar 2) (tCons (tC (.ref (He.ga K "NoTaken"))) tNil))) (tCons (tCB (Y.rIsK K) (tCons (tVar 2) (tCons (tC (.ref (He.ga K "NoName"))) tNil))) (tCons (tCB (Y.rIsK K) (tCons (tVar 2) (tCons (tC (.ref (He.ga K "NoRule"))) tNil))) tNil))))) (gName 3))
  (tSeq (tAsg (tOp rCat (tVar 3) (tLst (tCons (tCB (Y.rIsK K) (tCons (tVar 2) (tCons (tC (.ref (He.ga K "TooMany"))) tNil))) (tCons (tCB (Y.rIsK K) (tCons (tVar 2) (tCons (tC (.ref (He.ga K "NoDeed"))) tNil))) tNil)))) (gName 3))
  (tSeq (tIfS (tOr (tTest (tOp rNe (tBM K "list" (rCntV K) (tVar 3) (tCons (tC (.bl true)) tNil)) (tC (.int 1)))) (tNot (tB (tCB (Y.rIsK K) (tCons (tVar 2) (tCons (tC (.ty "ValueError")) tNil))))))
  (tRet (tTup (tCons (tC (.str "wrong")) (tCons (tC .non) tNil))))
  tNext)
  (tSeq (tIfS (tB (tCB (Y.rIsK K) (tCons (tVar 2) (tCons (tC (.ref (He.ga K "Off"))) tNil))))
  (tRet (tTup (tCons (tC (.str "off")) (tCons (tXat K (tVar 2) "days") tNil))))
  tNext)
  (tSeq (tIfS (tB (tCB (Y.rIsK K) (tCons (tVar 2) (tCons (tC (.ref (He.ga K "NoRule"))) tNil))))
  (tRet (tTup (tCons (tC (.str "no rule")) (tCons (tXat K (tVar 2) "number") tNil))))
  tNext)
  (tRet (tTup (tCons (tOp (rIxL K) (tLst (tCons (tC (.str "")) (tCons (tC (.str "no taken")) (tCons (tC (.str "no name")) (tCons (tC (.str "")) (tCons (tC (.str "many")) (tCons (tC (.str "no deed")) tNil))))))) (tBM K "list" (rIndex K) (tVar 3) (tCons (tC (.bl true)) tNil))) (tCons (tC .non) tNil))))))))) (fun _ _ _ _ => False))
theorem pure_Ldone {K : PySem.W.Frag} {v y : V} {H : Hp} {Q : VK} {E : XK} (h : sp_Ldone K [v, y] H Q E) : t_Ldone K { nx := fun _ H' => Q .non H', rt := Q } [some v, some y, none, none] H := by
  obtain ⟨v, y, e, ⟨ci, cl, cf, cb, ce, cn, co, cm, c1, c2, c3⟩, M, W, m, st, pa, t, P, d, rfl, J, lp, h, ok, q⟩ := h
  cases e
  unfold t_Ldone
  cases d with
  | take c g =>
    obtain ⟨sa, ht, hs⟩ := h
    obtain ⟨sb, lc⟩ := ok
    walk_at "ss"
    refine ite_t (by decide) ?_
    walk_at "ss"
    refine g_jmethX (n := 0) rfl J (by decide) ?_
    walk_at "ss"
    refine ⟨_, _, rfl, ci, cl, cf, cb, co, M, W, m, st, pa, sa, c, g, J, rfl, hs, sb, lc, lp, fun o p dd H1 s1 f1 h1 hdd => ?_, fun o H1 M1 W1 k1 J1 n1 => ?_⟩
    · refine w_take (x := "Off") ce (by decide) (by decide) (by decide) fun b hb => ?_
      have fa := exAt_fld ce (x := "Off") (by decide) hdd hb
      walk_at "ss"
      rename_i p1 hp1 p2 hp2 l0 hl0
      have eL : ([V.bl (subE "Off" "Off"), V.bl (subE "Off" "NoTaken"), V.bl (subE "Off" "NoName"), V.bl (subE "Off" "NoRule")] ++ [V.bl (subE "Off" "TooMany"), V.bl (subE "Off" "NoDeed")]) = [V.bl true, V.bl false, V.bl false, V.bl false, V.bl false, V.bl false] := by rfl
      rw [eL]
      refine g_cntV (SqL.of upd_same) rfl rfl ?_
      walk_at "ss"
      refine ite_f (by rfl) ?_
      have sG : Same H (upd (upd (upd (upd H1 b (exK b (.ref (He.ga K "Off")) (some dd))) p1 (.lst [V.bl (subE "Off" "Off"), V.bl (subE "Off" "NoTaken"), V.bl (subE "Off" "NoName"), V.bl (subE "Off" "NoRule")])) p2 (.lst [V.bl (subE "Off" "TooMany"), V.bl (subE "Off" "NoDeed")])) l0 (.lst [V.bl true, V.bl false, V.bl false, V.bl false, V.bl false, V.bl false])) := (s1).trans (sm_new hl0 (sm_new hp2 (sm_new hp1 (same_new hb))))
      have sG1 : Same H1 (upd (upd (upd (upd H1 b (exK b (.ref (He.ga K "Off")) (some dd))) p1 (.lst [V.bl (subE "Off" "Off"), V.bl (subE "Off" "NoTaken"), V.bl (subE "Off" "NoName"), V.bl (subE "Off" "NoRule")])) p2 (.lst [V.bl (subE "Off" "TooMany"), V.bl (subE "Off" "NoDeed")])) l0 (.lst [V.bl true, V.bl false, V.bl false, V.bl false, V.bl false, V.bl false])) := (sm_new hl0 (sm_new hp2 (sm_new hp1 (same_new hb))))
      have fG := exAt_new (o := .lst [V.bl true, V.bl false, V.bl false, V.bl false, V.bl false, V.bl false]) hl0 (exAt_new (o := .lst [V.bl (subE "Off" "TooMany"), V.bl (subE "Off" "NoDeed")]) hp2 (exAt_new (o := .lst [V.bl (subE "Off" "Off"), V.bl (subE "Off" "NoTaken"), V.bl (subE "Off" "NoName"), V.bl (subE "Off" "NoRule")]) hp1 fa))
      have hG : (upd (upd (upd (upd H1 b (exK b (.ref (He.ga K "Off")) (some dd))) p1 (.lst [V.bl (subE "Off" "Off"), V.bl (subE "Off" "NoTaken"), V.bl (subE "Off" "NoName"), V.bl (subE "Off" "NoRule")])) p2 (.lst [V.bl (subE "Off" "TooMany"), V.bl (subE "Off" "NoDeed")])) l0 (.lst [V.bl true, V.bl false, V.bl false, V.bl false, V.bl false, V.bl false])) l0 = _ := upd_same
      generalize upd (upd (upd (upd H1 b (exK b (.ref (He.ga K "Off")) (some dd))) p1 (.lst [V.bl (subE "Off" "Off"), V.bl (subE "Off" "NoTaken"), V.bl (subE "Off" "NoName"), V.bl (subE "Off" "NoRule")])) p2 (.lst [V.bl (subE "Off" "TooMany"), V.bl (subE "Off" "NoDeed")])) l0 (.lst [V.bl true, V.bl false, V.bl false, V.bl false, V.bl false, V.bl false]) = G at sG sG1 fG hG ⊢
      clear hl0 hp2 hp1 hb fa eL
      walk_at "ss"
      rename_i p4 hp4
      exact tell_no q (step_off o) _ _ (sG.trans (same_new hp4)) ⟨p4, _, rfl, upd_same, .inr (.inr ⟨p, _, rfl, at_new hp4 (sG1 _ _ h1), f1, rfl⟩)⟩
    · walk_at "ss"
      rename_i p4 hp4
      exact tell_ok q (step_take o) _ _ _ _ (k1.trans (Same.kp (same_new hp4) _)) (J1.same (same_new hp4)) n1 (res_int upd_same)
  | back k =>
    replace h : H t = some (.tup [.str "back", .int k]) := h
    walk_at "ss"
    refine ite_f (by decide) ?_
    walk_at "ss"
    refine ite_t (by decide) ?_
    walk_at "ss"
    refine g_jmethX (n := 0) rfl J (by decide) ?_
    walk_at "ss"
    refine ⟨_, _, rfl, ci, c2, M, W, m, st, pa, k, J, rfl, lp, fun o => ?_, fun o H1 M1 W1 k1 J1 n1 => ?_⟩
    · refine w_take (x := "NoTaken") ce (by decide) (by decide) (by decide) fun b hb => ?_
      have fa := exAt_bare (H := H) (a := b) ce (x := "NoTaken") (by decide)
      walk_at "ss"
      rename_i p1 hp1 p2 hp2 l0 hl0
      have eL : ([V.bl (subE "NoTaken" "Off"), V.bl (subE "NoTaken" "NoTaken"), V.bl (subE "NoTaken" "NoName"), V.bl (subE "NoTaken" "NoRule")] ++ [V.bl (subE "NoTaken" "TooMany"), V.bl (subE "NoTaken" "NoDeed")]) = [V.bl false, V.bl true, V.bl false, V.bl false, V.bl false, V.bl false] := by rfl
      rw [eL]
      refine g_cntV (SqL.of upd_same) rfl rfl ?_
      walk_at "ss"
      refine ite_f (by rfl) ?_
      have sG : Same H (upd (upd (upd (upd H b (exK b (.ref (He.ga K "NoTaken")) none)) p1 (.lst [V.bl (subE "NoTaken" "Off"), V.bl (subE "NoTaken" "NoTaken"), V.bl (subE "NoTaken" "NoName"), V.bl (subE "NoTaken" "NoRule")])) p2 (.lst [V.bl (subE "NoTaken" "TooMany"), V.bl (subE "NoTaken" "NoDeed")])) l0 (.lst [V.bl false, V.bl true, V.bl false, V.bl false, V.bl false, V.bl false])) := (Same.refl H).trans (sm_new hl0 (sm_new hp2 (sm_new hp1 (same_new hb))))
      have fG := exAt_new (o := .lst [V.bl false, V.bl true, V.bl false, V.bl false, V.bl false, V.bl false]) hl0 (exAt_new (o := .lst [V.bl (subE "NoTaken" "TooMany"), V.bl (subE "NoTaken" "NoDeed")]) hp2 (exAt_new (o := .lst [V.bl (subE "NoTaken" "Off"), V.bl (subE "NoTaken" "NoTaken"), V.bl (subE "NoTaken" "NoName"), V.bl (subE "NoTaken" "NoRule")]) hp1 fa))
      have hG : (upd (upd (upd (upd H b (exK b (.ref (He.ga K "NoTaken")) none)) p1 (.lst [V.bl (subE "NoTaken" "Off"), V.bl (subE "NoTaken" "NoTaken"), V.bl (subE "NoTaken" "NoName"), V.bl (subE "NoTaken" "NoRule")])) p2 (.lst [V.bl (subE "NoTaken" "TooMany"), V.bl (subE "NoTaken" "NoDeed")])) l0 (.lst [V.bl false, V.bl true, V.bl false, V.bl false, V.bl false, V.bl false])) l0 = _ := upd_same
      generalize upd (upd (upd (upd H b (exK b (.ref (He.ga K "NoTaken")) none)) p1 (.lst [V.bl (subE "NoTaken" "Off"), V.bl (subE "NoTaken" "NoTaken"), V.bl (subE "NoTaken" "NoName"), V.bl (subE "NoTaken" "NoRule")])) p2 (.lst [V.bl (subE "NoTaken" "TooMany"), V.bl (subE "NoTaken" "NoDeed")])) l0 (.lst [V.bl false, V.bl true, V.bl false, V.bl false, V.bl false, V.bl false]) = G at sG fG hG ⊢
      clear hl0 hp2 hp1 hb fa eL
      walk_at "ss"
      rename_i p3 hp3
      refine g_idxB (bs := [false, true, false, false, false, false]) (j := 1) (SqL.of (at_new hp3 hG)) rfl (by decide) ?_
      walk_at "ss"
      refine ⟨p3, _, 1, _, rfl, rfl, SqL.of upd_same, rfl, ?_⟩
      walk_at "ss"
      rename_i p4 hp4
      exact tell_no q (step_back_no o) _ _ (sG.trans (sm_new hp4 (same_new hp3))) (res_non upd_same)
    · walk_at "ss"
      rename_i p4 hp4
      exact tell_ok q (step_back o) _ _ _ _ (k1.trans (Same.kp (same_new hp4) _)) (J1.same (same_new hp4)) n1 (res_non upd_same)
  | lay n ds =>
    obtain ⟨p, xs, b0, h, hp, hd, -⟩ := h
    replace hd := tds_ats hd
    walk_at "ss"
    refine ite_f (by decide) ?_
    walk_at "ss"
    refine ite_f (by decide) ?_
    walk_at "ss"
    refine ite_t (by decide) ?_
    walk_at "ss"
    refine g_jmethX (n := 0) rfl J (by decide) ?_
    walk_at "ss"
    refine ⟨_, _, _, rfl, ci, cf, cb, c1, cn, cm, M, W, m, st, pa, n, p, xs, ds, J, rfl, rfl, hp, hd, ok, lp, fun e => ?_, fun rs e => ⟨fun i d dd H1 a1 a2 a3 s1 hdd => ?_, fun us H1 a1 a2 s1 => ?_, fun us a1 a2 a3 H1 M1 W1 k1 J1 n1 => ?_⟩⟩
    · refine w_take (x := "NoName") ce (by decide) (by decide) (by decide) fun b hb => ?_
      have fa := exAt_bare (H := H) (a := b) ce (x := "NoName") (by decide)
      walk_at "ss"
      rename_i p1 hp1 p2 hp2 l0 hl0
      have eL : ([V.bl (subE "NoName" "Off"), V.bl (subE "NoName" "NoTaken"), V.bl (subE "NoName" "NoName"), V.bl (subE "NoName" "NoRule")] ++ [V.bl (subE "NoName" "TooMany"), V.bl (subE "NoName" "NoDeed")]) = [V.bl false, V.bl false, V.bl true, V.bl false, V.bl false, V.bl false] := by rfl
      rw [eL]
      refine g_cntV (SqL.of upd_same) rfl rfl ?_
      walk_at "ss"
      refine ite_f (by rfl) ?_
      have sG : Same H (upd (upd (upd (upd H b (exK b (.ref (He.ga K "NoName")) none)) p1 (.lst [V.bl (subE "NoName" "Off"), V.bl (subE "NoName" "NoTaken"), V.bl (subE "NoName" "NoName"), V.bl (subE "NoName" "NoRule")])) p2 (.lst [V.bl (subE "NoName" "TooMany"), V.bl (subE "NoName" "NoDeed")])) l0 (.lst [V.bl false, V.bl false, V.bl true, V.bl false, V.bl false, V.bl false])) := (Same.refl H).trans (sm_new hl0 (sm_new hp2 (sm_new hp1 (same_new hb))))
      have fG := exAt_new (o := .lst [V.bl false, V.bl false, V.bl true, V.bl false, V.bl false, V.bl false]) hl0 (exAt_new (o := .lst [V.bl (subE "NoName" "TooMany"), V.bl (subE "NoName" "NoDeed")]) hp2 (exAt_new (o := .lst [V.bl (subE "NoName" "Off"), V.bl (subE "NoName" "NoTaken"), V.bl (subE "NoName" "NoName"), V.bl (subE "NoName" "NoRule")]) hp1 fa))
      have hG : (upd (upd (upd (upd H b (exK b (.ref (He.ga K "NoName")) none)) p1 (.lst [V.bl (subE "NoName" "Off"), V.bl (subE "NoName" "NoTaken"), V.bl (subE "NoName" "NoName"), V.bl (subE "NoName" "NoRule")])) p2 (.lst [V.bl (subE "NoName" "TooMany"), V.bl (subE "NoName" "NoDeed")])) l0 (.lst [V.bl false, V.bl false, V.bl true, V.bl false, V.bl false, V.bl false])) l0 = _ := upd_same
      generalize upd (upd (upd (upd H b (exK b (.ref (He.ga K "NoName")) none)) p1 (.lst [V.bl (subE "NoName" "Off"), V.bl (subE "NoName" "NoTaken"), V.bl (subE "NoName" "NoName"), V.bl (subE "NoName" "NoRule")])) p2 (.lst [V.bl (subE "NoName" "TooMany"), V.bl (subE "NoName" "NoDeed")])) l0 (.lst [V.bl false, V.bl false, V.bl true, V.bl false, V.bl false, V.bl false]) = G at sG fG hG ⊢
      clear hl0 hp2 hp1 hb fa eL
      walk_at "ss"
      rename_i p3 hp3
      refine g_idxB (bs := [false, false, true, false, false, false]) (j := 2) (SqL.of (at_new hp3 hG)) rfl (by decide) ?_
      walk_at "ss"
      refine ⟨p3, _, 2, _, rfl, rfl, SqL.of upd_same, rfl, ?_⟩
      walk_at "ss"
      rename_i p4 hp4
      exact tell_no q (step_lay_no e) _ _ (sG.trans (sm_new hp4 (same_new hp3))) (res_non upd_same)
    · refine w_take (x := "NoRule") ce (by decide) (by decide) (by decide) fun b hb => ?_
      have fa := exAt_fld ce (x := "NoRule") (by decide) hdd hb
      walk_at "ss"
      rename_i p1 hp1 p2 hp2 l0 hl0
      have eL : ([V.bl (subE "NoRule" "Off"), V.bl (subE "NoRule" "NoTaken"), V.bl (subE "NoRule" "NoName"), V.bl (subE "NoRule" "NoRule")] ++ [V.bl (subE "NoRule" "TooMany"), V.bl (subE "NoRule" "NoDeed")]) = [V.bl false, V.bl false, V.bl false, V.bl true, V.bl false, V.bl false] := by rfl
      rw [eL]
      refine g_cntV (SqL.of upd_same) rfl rfl ?_
      walk_at "ss"
      refine ite_f (by rfl) ?_
      have sG : Same H (upd (upd (upd (upd H1 b (exK b (.ref (He.ga K "NoRule")) (some dd))) p1 (.lst [V.bl (subE "NoRule" "Off"), V.bl (subE "NoRule" "NoTaken"), V.bl (subE "NoRule" "NoName"), V.bl (subE "NoRule" "NoRule")])) p2 (.lst [V.bl (subE "NoRule" "TooMany"), V.bl (subE "NoRule" "NoDeed")])) l0 (.lst [V.bl false, V.bl false, V.bl false, V.bl true, V.bl false, V.bl false])) := (s1).trans (sm_new hl0 (sm_new hp2 (sm_new hp1 (same_new hb))))
      have fG := exAt_new (o := .lst [V.bl false, V.bl false, V.bl false, V.bl true, V.bl false, V.bl false]) hl0 (exAt_new (o := .lst [V.bl (subE "NoRule" "TooMany"), V.bl (subE "NoRule" "NoDeed")]) hp2 (exAt_new (o := .lst [V.bl (subE "NoRule" "Off"), V.bl (subE "NoRule" "NoTaken"), V.bl (subE "NoRule" "NoName"), V.bl (subE "NoRule" "NoRule")]) hp1 fa))
      have hG : (upd (upd (upd (upd H1 b (exK b (.ref (He.ga K "NoRule")) (some dd))) p1 (.lst [V.bl (subE "NoRule" "Off"), V.bl (subE "NoRule" "NoTaken"), V.bl (subE "NoRule" "NoName"), V.bl (subE "NoRule" "NoRule")])) p2 (.lst [V.bl (subE "NoRule" "TooMany"), V.bl (subE "NoRule" "NoDeed")])) l0 (.lst [V.bl false, V.bl false, V.bl false, V.bl true, V.bl false, V.bl false])) l0 = _ := upd_same
      generalize upd (upd (upd (upd H1 b (exK b (.ref (He.ga K "NoRule")) (some dd))) p1 (.lst [V.bl (subE "NoRule" "Off"), V.bl (subE "NoRule" "NoTaken"), V.bl (subE "NoRule" "NoName"), V.bl (subE "NoRule" "NoRule")])) p2 (.lst [V.bl (subE "NoRule" "TooMany"), V.bl (subE "NoRule" "NoDeed")])) l0 (.lst [V.bl false, V.bl false, V.bl false, V.bl true, V.bl false, V.bl false]) = G at sG fG hG ⊢
      clear hl0 hp2 hp1 hb fa eL
      walk_at "ss"
      rename_i p4 hp4
      exact tell_no q (step_lay_bad e a1 a2 a3) _ _ (sG.trans (same_new hp4)) (res_int upd_same)
    · refine w_take (x := "TooMany") ce (by decide) (by decide) (by decide) fun b hb => ?_
      have fa := exAt_bare (H := H1) (a := b) ce (x := "TooMany") (by decide)
      walk_at "ss"
      rename_i p1 hp1 p2 hp2 l0 hl0
      have eL : ([V.bl (subE "TooMany" "Off"), V.bl (subE "TooMany" "NoTaken"), V.bl (subE "TooMany" "NoName"), V.bl (subE "TooMany" "NoRule")] ++ [V.bl (subE "TooMany" "TooMany"), V.bl (subE "TooMany" "NoDeed")]) = [V.bl false, V.bl false, V.bl false, V.bl false, V.bl true, V.bl false] := by rfl
      rw [eL]
      refine g_cntV (SqL.of upd_same) rfl rfl ?_
      walk_at "ss"
      refine ite_f (by rfl) ?_
      have sG : Same H (upd (upd (upd (upd H1 b (exK b (.ref (He.ga K "TooMany")) none)) p1 (.lst [V.bl (subE "TooMany" "Off"), V.bl (subE "TooMany" "NoTaken"), V.bl (subE "TooMany" "NoName"), V.bl (subE "TooMany" "NoRule")])) p2 (.lst [V.bl (subE "TooMany" "TooMany"), V.bl (subE "TooMany" "NoDeed")])) l0 (.lst [V.bl false, V.bl false, V.bl false, V.bl false, V.bl true, V.bl false])) := (s1).trans (sm_new hl0 (sm_new hp2 (sm_new hp1 (same_new hb))))
      have fG := exAt_new (o := .lst [V.bl false, V.bl false, V.bl false, V.bl false, V.bl true, V.bl false]) hl0 (exAt_new (o := .lst [V.bl (subE "TooMany" "TooMany"), V.bl (subE "TooMany" "NoDeed")]) hp2 (exAt_new (o := .lst [V.bl (subE "TooMany" "Off"), V.bl (subE "TooMany" "NoTaken"), V.bl (subE "TooMany" "NoName"), V.bl (subE "TooMany" "NoRule")]) hp1 fa))
      have hG : (upd (upd (upd (upd H1 b (exK b (.ref (He.ga K "TooMany")) none)) p1 (.lst [V.bl (subE "TooMany" "Off"), V.bl (subE "TooMany" "NoTaken"), V.bl (subE "TooMany" "NoName"), V.bl (subE "TooMany" "NoRule")])) p2 (.lst [V.bl (subE "TooMany" "TooMany"), V.bl (subE "TooMany" "NoDeed")])) l0 (.lst [V.bl false, V.bl false, V.bl false, V.bl false, V.bl true, V.bl false])) l0 = _ := upd_same
      generalize upd (upd (upd (upd H1 b (exK b (.ref (He.ga K "TooMany")) none)) p1 (.lst [V.bl (subE "TooMany" "Off"), V.bl (subE "TooMany" "NoTaken"), V.bl (subE "TooMany" "NoName"), V.bl (subE "TooMany" "NoRule")])) p2 (.lst [V.bl (subE "TooMany" "TooMany"), V.bl (subE "TooMany" "NoDeed")])) l0 (.lst [V.bl false, V.bl false, V.bl false, V.bl false, V.bl true, V.bl false]) = G at sG fG hG ⊢
      clear hl0 hp2 hp1 hb fa eL
      walk_at "ss"
      rename_i p3 hp3
      refine g_idxB (bs := [false, false, false, false, true, false]) (j := 4) (SqL.of (at_new hp3 hG)) rfl (by decide) ?_
      walk_at "ss"
      refine ⟨p3, _, 4, _, rfl, rfl, SqL.of upd_same, rfl, ?_⟩
      walk_at "ss"
      rename_i p4 hp4
      exact tell_no q (step_lay_many e a1 a2) _ _ (sG.trans (sm_new hp4 (same_new hp3))) (res_non upd_same)
    · walk_at "ss"
      rename_i p4 hp4
      exact tell_ok q (step_lay e a1 a2 a3) _ _ _ _ (k1.trans (Same.kp (same_new hp4) _)) (J1.same (same_new hp4)) n1 (res_non upd_same)
  | tidy n =>
    replace h : H t = some (.tup [.str "tidy", .str n]) := h
    walk_at "ss"
    refine ite_f (by decide) ?_
    walk_at "ss"
    refine ite_f (by decide) ?_
    walk_at "ss"
    refine ite_f (by decide) ?_
    walk_at "ss"
    refine ite_t (by decide) ?_
    walk_at "ss"
    refine g_jmethX (n := 0) rfl J (by decide) ?_
    walk_at "ss"
    refine ⟨_, _, rfl, ci, cf, cb, c1, M, W, m, st, pa, n, J, rfl, lp, fun e => ?_, fun rs e H1 M1 W1 k1 J1 n1 => ?_⟩
    · refine w_take (x := "NoName") ce (by decide) (by decide) (by decide) fun b hb => ?_
      have fa := exAt_bare (H := H) (a := b) ce (x := "NoName") (by decide)
      walk_at "ss"
      rename_i p1 hp1 p2 hp2 l0 hl0
      have eL : ([V.bl (subE "NoName" "Off"), V.bl (subE "NoName" "NoTaken"), V.bl (subE "NoName" "NoName"), V.bl (subE "NoName" "NoRule")] ++ [V.bl (subE "NoName" "TooMany"), V.bl (subE "NoName" "NoDeed")]) = [V.bl false, V.bl false, V.bl true, V.bl false, V.bl false, V.bl false] := by rfl
      rw [eL]
      refine g_cntV (SqL.of upd_same) rfl rfl ?_
      walk_at "ss"
      refine ite_f (by rfl) ?_
      have sG : Same H (upd (upd (upd (upd H b (exK b (.ref (He.ga K "NoName")) none)) p1 (.lst [V.bl (subE "NoName" "Off"), V.bl (subE "NoName" "NoTaken"), V.bl (subE "NoName" "NoName"), V.bl (subE "NoName" "NoRule")])) p2 (.lst [V.bl (subE "NoName" "TooMany"), V.bl (subE "NoName" "NoDeed")])) l0 (.lst [V.bl false, V.bl false, V.bl true, V.bl false, V.bl false, V.bl false])) := (Same.refl H).trans (sm_new hl0 (sm_new hp2 (sm_new hp1 (same_new hb))))
      have fG := exAt_new (o := .lst [V.bl false, V.bl false, V.bl true, V.bl false, V.bl false, V.bl false]) hl0 (exAt_new (o := .lst [V.bl (subE "NoName" "TooMany"), V.bl (subE "NoName" "NoDeed")]) hp2 (exAt_new (o := .lst [V.bl (subE "NoName" "Off"), V.bl (subE "NoName" "NoTaken"), V.bl (subE "NoName" "NoName"), V.bl (subE "NoName" "NoRule")]) hp1 fa))
      have hG : (upd (upd (upd (upd H b (exK b (.ref (He.ga K "NoName")) none)) p1 (.lst [V.bl (subE "NoName" "Off"), V.bl (subE "NoName" "NoTaken"), V.bl (subE "NoName" "NoName"), V.bl (subE "NoName" "NoRule")])) p2 (.lst [V.bl (subE "NoName" "TooMany"), V.bl (subE "NoName" "NoDeed")])) l0 (.lst [V.bl false, V.bl false, V.bl true, V.bl false, V.bl false, V.bl false])) l0 = _ := upd_same
      generalize upd (upd (upd (upd H b (exK b (.ref (He.ga K "NoName")) none)) p1 (.lst [V.bl (subE "NoName" "Off"), V.bl (subE "NoName" "NoTaken"), V.bl (subE "NoName" "NoName"), V.bl (subE "NoName" "NoRule")])) p2 (.lst [V.bl (subE "NoName" "TooMany"), V.bl (subE "NoName" "NoDeed")])) l0 (.lst [V.bl false, V.bl false, V.bl true, V.bl false, V.bl false, V.bl false]) = G at sG fG hG ⊢
      clear hl0 hp2 hp1 hb fa eL
      walk_at "ss"
      rename_i p3 hp3
      refine g_idxB (bs := [false, false, true, false, false, false]) (j := 2) (SqL.of (at_new hp3 hG)) rfl (by decide) ?_
      walk_at "ss"
      refine ⟨p3, _, 2, _, rfl, rfl, SqL.of upd_same, rfl, ?_⟩
      walk_at "ss"
      rename_i p4 hp4
      exact tell_no q (step_tidy_no e) _ _ (sG.trans (sm_new hp4 (same_new hp3))) (res_non upd_same)
    · walk_at "ss"
      rename_i p4 hp4
      exact tell_ok q (step_tidy e) _ _ _ _ (k1.trans (Same.kp (same_new hp4) _)) (J1.same (same_new hp4)) n1 (res_non upd_same)
  | undo =>
    replace h : H t = some (.tup [.str "undo"]) := h
    walk_at "ss"
    refine ite_f (by decide) ?_
    walk_at "ss"
    refine ite_f (by decide) ?_
    walk_at "ss"
    refine ite_f (by decide) ?_
    walk_at "ss"
    refine ite_f (by decide) ?_
    walk_at "ss"
    refine g_jmethX (n := 0) rfl J (by decide) ?_
    walk_at "ss"
    refine gx_jundo ci c3 J (fun e H1 s1 => ?_) fun pa' st' e H1 M1 k1 J1 m1 => ?_
    · refine w_take (x := "NoDeed") ce (by decide) (by decide) (by decide) fun b hb => ?_
      have fa := exAt_bare (H := H1) (a := b) ce (x := "NoDeed") (by decide)
      walk_at "ss"
      rename_i p1 hp1 p2 hp2 l0 hl0
      have eL : ([V.bl (subE "NoDeed" "Off"), V.bl (subE "NoDeed" "NoTaken"), V.bl (subE "NoDeed" "NoName"), V.bl (subE "NoDeed" "NoRule")] ++ [V.bl (subE "NoDeed" "TooMany"), V.bl (subE "NoDeed" "NoDeed")]) = [V.bl false, V.bl false, V.bl false, V.bl false, V.bl false, V.bl true] := by rfl
      rw [eL]
      refine g_cntV (SqL.of upd_same) rfl rfl ?_
      walk_at "ss"
      refine ite_f (by rfl) ?_
      have sG : Same H (upd (upd (upd (upd H1 b (exK b (.ref (He.ga K "NoDeed")) none)) p1 (.lst [V.bl (subE "NoDeed" "Off"), V.bl (subE "NoDeed" "NoTaken"), V.bl (subE "NoDeed" "NoName"), V.bl (subE "NoDeed" "NoRule")])) p2 (.lst [V.bl (subE "NoDeed" "TooMany"), V.bl (subE "NoDeed" "NoDeed")])) l0 (.lst [V.bl false, V.bl false, V.bl false, V.bl false, V.bl false, V.bl true])) := (s1).trans (sm_new hl0 (sm_new hp2 (sm_new hp1 (same_new hb))))
      have fG := exAt_new (o := .lst [V.bl false, V.bl false, V.bl false, V.bl false, V.bl false, V.bl true]) hl0 (exAt_new (o := .lst [V.bl (subE "NoDeed" "TooMany"), V.bl (subE "NoDeed" "NoDeed")]) hp2 (exAt_new (o := .lst [V.bl (subE "NoDeed" "Off"), V.bl (subE "NoDeed" "NoTaken"), V.bl (subE "NoDeed" "NoName"), V.bl (subE "NoDeed" "NoRule")]) hp1 fa))
      have hG : (upd (upd (upd (upd H1 b (exK b (.ref (He.ga K "NoDeed")) none)) p1 (.lst [V.bl (subE "NoDeed" "Off"), V.bl (subE "NoDeed" "NoTaken"), V.bl (subE "NoDeed" "NoName"), V.bl (subE "NoDeed" "NoRule")])) p2 (.lst [V.bl (subE "NoDeed" "TooMany"), V.bl (subE "NoDeed" "NoDeed")])) l0 (.lst [V.bl false, V.bl false, V.bl false, V.bl false, V.bl false, V.bl true])) l0 = _ := upd_same
      generalize upd (upd (upd (upd H1 b (exK b (.ref (He.ga K "NoDeed")) none)) p1 (.lst [V.bl (subE "NoDeed" "Off"), V.bl (subE "NoDeed" "NoTaken"), V.bl (subE "NoDeed" "NoName"), V.bl (subE "NoDeed" "NoRule")])) p2 (.lst [V.bl (subE "NoDeed" "TooMany"), V.bl (subE "NoDeed" "NoDeed")])) l0 (.lst [V.bl false, V.bl false, V.bl false, V.bl false, V.bl false, V.bl true]) = G at sG fG hG ⊢
      clear hl0 hp2 hp1 hb fa eL
      walk_at "ss"
      rename_i p3 hp3
      refine g_idxB (bs := [false, false, false, false, false, true]) (j := 5) (SqL.of (at_new hp3 hG)) rfl (by decide) ?_
      walk_at "ss"
      refine ⟨p3, _, 5, _, rfl, rfl, SqL.of upd_same, rfl, ?_⟩
      walk_at "ss"
      rename_i p4 hp4
      exact tell_no q (step_undo_no e) _ _ (sG.trans (sm_new hp4 (same_new hp3))) (res_non upd_same)
    · walk_at "ss"
      rename_i p4 hp4
      exact tell_ok q (step_undo e) _ _ _ _ (k1.trans (Same.kp (same_new hp4) _)) (J1.same (same_new hp4)) ⟨fun x hx => .inl (m1 x hx), fun x hx => .inl hx⟩ (res_non upd_same)
/-! YLs: drawn stays (second family). -/
open PySem PySem.Spec PyProof.Rows L2
def sp_Lstay (K : PySem.W.Frag) : Sp := Sp2 fun x y H Q E => ∃ (t b s : Addr) (m : Int), x = .ref t ∧ y = .int m ∧ Tape H t b s ∧ 0 ≤ m ∧ ∀ (p : Addr) (c g : Int) (H' : Hp), Tape H' t b s → Kp [t, b] H H' → Fr H p → H' p = some (.tup [.int c, .int g]) → StayB c g → Q (.ref p) H'
theorem g_Lstay2 {K : PySem.W.Frag} {t b s : Addr} {m : Int} {H : Hp} {Q : VK} {E : XK} (T : Tape H t b s) (h0 : 0 ≤ m) (q : ∀ (p : Addr) (c g : Int) (H' : Hp), Tape H' t b s → Kp [t, b] H H' → Fr H p → H' p = some (.tup [.int c, .int g]) → StayB c g → Q (.ref p) H') : sp_Lstay K ([.ref t, .int m] ++ []) H Q E := ⟨_, _, rfl, t, b, s, m, rfl, rfl, T, h0, q⟩
def t_Lstay (K : PySem.W.Frag) : TS :=
  (tSeq (tAsg (tCB rMin2 (tCons (tOp rSub (tOp rPow (tC (.int 10)) (tC (.int 6))) (tC (.int 1))) (tCons (tOp rAdd (tVar 1) (tCall (sp_Ltake K) [] E0 (tCons (tVar 0) (tCons (tC (.int 4)) tNil)))) tNil))) (gName 2))
  (tSeq (tAsg (tOp rAdd (tC (.int 1)) (tOp (rIxL K) (tLst (tCons (tCall (sp_Ltake K) [] E0 (tCons (tVar 0) (tCons (tC (.int 4)) tNil))) (tCons (tCall (sp_Ltake K) [] E0 (tCons (tVar 0) (tCons (tC (.int 14)) tNil))) tNil))) (tOp rDivW (tCall (sp_Ltake K) [] E0 (tCons (tVar 0) (tCons (tC (.int 8)) tNil))) (tC (.int 7))))) (gName 3))
  (tRet (tTup (tCons (tVar 2) (tCons (tCB rMin2 (tCons (tOp rPow (tC (.int 10)) (tC (.int 6))) (tCons (tOp rAdd (tVar 2) (tVar 3)) tNil))) tNil))))))
theorem pure_Lstay {K : PySem.W.Frag} {x y : V} {H : Hp} {Q : VK} {E : XK} (h : sp_Lstay K [x, y] H Q E) : t_Lstay K { nx := fun _ H' => Q .non H', rt := Q } [some x, some y, none, none] H := by
  obtain ⟨x, y, e, t, b, s, m, rfl, rfl, T, h0, q⟩ := h
  cases e
  unfold t_Lstay
  walk_at "ss"
  rename_i a1 H1 a10 a11 T1 k1 a2 H2 a20 a21 T2 k2 a3 H3 a30 a31 T3 k3 p1 hp1 a4 H4 a40 a41 T4 k4 v hv p2 hp2
  rw [mni, mni]
  have hfr : Fr H p2 := fr_kp hp2 (by walk_at "kp") (ni_tape hp2 T4)
  exact q p2 (min (1000000 - 1) (m + a1)) (min 1000000 (min (1000000 - 1) (m + a1) + (1 + v))) _ (by walk_at "tp") (by walk_at "kp") hfr upd_same ⟨by omega, by omega, by omega, by omega⟩
/-! YTw: few rules drawn, a list of rules turned (second family). -/
open PySem PySem.Spec PyProof.Rows L2
theorem eqv_nil (ds : List PyData) : PyData.eqv (.list ds) (.list []) = decide (ds = []) := by
  rw [PyData.eqv]
  cases ds with
  | nil => rfl
  | cons d ds => simp [PyData.eqvAll]
theorem g_insertV {H : Hp} {Q : VK} {l : Addr} {xs : List V} {i : Int} {y : V} (h : H l = some (.lst xs)) (z : xs.length < sizeLine) (h0 : 0 ≤ i) (h1 : i < 2 ^ 63) (q : Q .non (upd H l (.lst (xs.take i.toNat ++ [y] ++ xs.drop i.toNat)))) : rInsert (.ref l) [.int i, y] H Q := ⟨l, xs, i, y, rfl, rfl, h, z, h0, h1, q⟩
def QRules (t b s : Addr) (n : Nat) (H : Hp) (Q : VK) : Prop := ∀ (p : Addr) (ys : List V) (rs : List RuleD) (H' : Hp), Tape H' t b s → Kp [t, b] H H' → Fr H p → H' p = some (.lst ys) → Rus H' ys rs → rs.length ≤ n → (∀ r ∈ rs, RuleD.good r) → Q (.ref p) H'
def sp_Lfew (K : PySem.W.Frag) : Sp := Sp3 fun x y z H Q E => ∃ (t b s : Addr) (m n : Int), x = .ref t ∧ y = .int m ∧ z = .int n ∧ Tape H t b s ∧ 0 ≤ m ∧ m ≤ 1000000 ∧ 0 ≤ n ∧ n ≤ 30 ∧ QRules t b s (n.toNat + 1) H Q
theorem g_Lfew {K : PySem.W.Frag} {t b s : Addr} {m n : Int} {H : Hp} {Q : VK} {E : XK} (T : Tape H t b s) (h0 : 0 ≤ m) (h1 : m ≤ 1000000) (n0 : 0 ≤ n) (n1 : n ≤ 30) (q : QRules t b s (n.toNat + 1) H Q) : sp_Lfew K ([.ref t, .int m, .int n] ++ []) H Q E :=
  ⟨_, _, _, rfl, t, b, s, m, n, rfl, rfl, rfl, T, h0, h1, n0, n1, q⟩
def sp_Lturned (K : PySem.W.Frag) : Sp := Sp3 fun x y z H Q E => ∃ (t b s p : Addr) (xs : List V) (rs : List RuleD) (m : Int), x = .ref t ∧ y = .ref p ∧ z = .int m ∧ Tape H t b s ∧ SqL K H p xs ∧ Rus H xs rs ∧ (∀ r ∈ rs, RuleD.good r) ∧ rs.length ≤ 100 ∧ 0 ≤ m ∧ m ≤ 1000000 ∧ QRules t b s (rs.length + 1) H Q
/-! YXv: a drawn deed (numbers of the standing in a list). -/
open PySem PySem.Spec PyProof.Rows L2
def DrawnOk : Dd → Prop
  | .take c g => StayB c g
  | .lay n ds => ds.length ≤ 30 ∧ (∀ d ∈ ds, Sh 3 d) ∧ PyData.strOk n = true
  | .tidy n => PyData.strOk n = true
  | _ => True
theorem ru_tds {H : Hp} : ∀ {xs : List V} {rs : List RuleD}, Rus H xs rs → Tds H xs (rs.map RuleD.told)
  | _, _, .nil => .nil
  | _, _, .cons h t => .cons (RuT.td h) (ru_tds t)
theorem tds_take {H : Hp} : ∀ {xs : List V} {ds : List PyData} (n : Nat), Tds H xs ds → Tds H (xs.take n) (ds.take n)
  | _, _, 0, _ => .nil
  | _, _, n + 1, .nil => .nil
  | _, _, n + 1, .cons h t => .cons h (tds_take n t)
theorem tds_drop {H : Hp} : ∀ {xs : List V} {ds : List PyData} (n : Nat), Tds H xs ds → Tds H (xs.drop n) (ds.drop n)
  | _, _, 0, h => h
  | _, _, n + 1, .nil => .nil
  | _, _, n + 1, .cons h t => tds_drop n t
theorem at_int {ms : List Int} {a : Int} (h0 : 0 ≤ a) (h1 : a < ms.length) : ∃ k, atI (ms.map V.int) a = some (.int k) := by
  have hj : a.toNat < ms.length := by omega
  have e : ((a.toNat : Nat) : Int) = a := by omega
  refine ⟨ms[a.toNat], ?_⟩
  have := atI_nat (xs := ms.map V.int) (j := a.toNat) (v := .int ms[a.toNat]) (by rw [List.getElem?_map, List.getElem?_eq_getElem hj]; rfl)
  rwa [e] at this
def sp_Ldeed (K : PySem.W.Frag) : Sp := Sp4 fun x y z w H Q E => ∃ (t b s : Addr) (day : Int) (p : Addr) (ns : List Int), x = .ref t ∧ y = .int day ∧ 0 ≤ day ∧ day ≤ 999989 ∧ Tape H t b s ∧ w = .ref p ∧ SqL K H p (ns.map V.int) ∧ p ∉ [t, b] ∧ ns.length ≤ 64 ∧
  ∀ (p : Addr) (P : List Addr) (d : Dd) (H' : Hp), Tape H' t b s → Kp [t, b] H H' → Fr H p → (∀ x ∈ P, Fr H x) → DdAt H' P p d → DrawnOk d → Q (.ref p) H'
theorem g_Ldeed {K : PySem.W.Frag} {t b s p : Addr} {day : Int} {z : V} {ns : List Int} {H : Hp} {Q : VK} {E : XK} (T : Tape H t b s) (d0 : 0 ≤ day) (d1 : day ≤ 999989) (h : SqL K H p (ns.map V.int)) (np : p ∉ [t, b]) (l : ns.length ≤ 64)
    (q : ∀ (p : Addr) (P : List Addr) (d : Dd) (H' : Hp), Tape H' t b s → Kp [t, b] H H' → Fr H p → (∀ x ∈ P, Fr H x) → DdAt H' P p d → DrawnOk d → Q (.ref p) H') : sp_Ldeed K ([.ref t, .int day, z, .ref p] ++ []) H Q E := ⟨_, _, _, _, rfl, t, b, s, day, p, ns, rfl, rfl, d0, d1, T, rfl, h, np, l, q⟩
def t_Ldeed (K : PySem.W.Frag) : TS :=
  (tSeq (tAsg (tCall (sp_Ltake K) [] E0 (tCons (tVar 0) (tCons (tC (.int 16)) tNil))) (gName 4))
  (tSeq (tAsg (tOp (rIxL K) (tLst (tCons (tC (.str "main")) (tCons (tC (.str "late")) (tCons (tC (.str "maina")) (tCons (tC (.str "x")) tNil))))) (tOp (rIxL K) (tLst (tCons (tCall (sp_Ltake K) [] E0 (tCons (tVar 0) (tCons (tC (.int 2)) tNil))) (tCons (tCall (sp_Ltake K) [] E0 (tCons (tVar 0) (tCons (tC (.int 4)) tNil))) tNil))) (tOp rDivW (tCall (sp_Ltake K) [] E0 (tCons (tVar 0) (tCons (tC (.int 6)) tNil))) (tC (.int 5))))) (gName 5))
  (tSeq (tIfS (tTest (tOp rLt (tVar 4) (tC (.int 7))))
  (tRet (tTup (tCons (tC (.str "take")) (tCons (tCall (sp_Lstay K) [] E0 (tCons (tVar 0) (tCons (tVar 1) tNil))) tNil))))
  tNext)
  (tSeq (tIfS (tTest (tOp rLt (tVar 4) (tC (.int 9))))
  (tSeq (tAsg (tOp rCat (tCB (rSortedI K) (tCons (tVar 3) tNil)) (tLst (tCons (tCall (sp_Ltake K) [] E0 (tCons (tVar 0) (tCons (tC (.int 12)) tNil))) (tCons (tUn rNeg (tC (.int 1))) tNil)))) (gName 6))
  (tRet (tTup (tCons (tC (.str "back")) (tCons (tOp (rIxL K) (tVar 6) (tCall (sp_Ltake K) [] E0 (tCons (tVar 0) (tCons (tCB (rLen K) (tCons (tVar 6) tNil)) tNil)))) tNil)))))
  tNext)
  (tSeq (tIfS (tTest (tOp rLt (tVar 4) (tC (.int 12))))
  (tSeq (tAsg (tOp (rIxL K) (tLst (tCons (tCall (sp_Ltake K) [] E0 (tCons (tVar 0) (tCons (tC (.int 4)) tNil))) (tCons (tCall (sp_Ltake K) [] E0 (tCons (tVar 0) (tCons (tC (.int 26)) tNil))) tNil))) (tOp rDivW (tCall (sp_Ltake K) [] E0 (tCons (tVar 0) (tCons (tC (.int 9)) tNil))) (tC (.int 8)))) (gName 7))
  (tSeq (tAsg (tLc (iRng1 (tCons (tVar 7) tNil)) (gName 10) tYes (tCall (sp_Lrule K) [] E0 (tCons (tVar 0) (tCons (tVar 1) tNil))) [10]) (gName 8))
  (tSeq (tAsg (tUn rNeg (tC (.int 1))) (gName 9))
  (tSeq (tIfS (tTest (tOp rEq (tCall (sp_Ltake K) [] E0 (tCons (tVar 0) (tCons (tC (.int 12)) tNil))) (tC (.int 0))))
  (tSeq (tAsg (tCall (sp_Ltake K) [] E0 (tCons (tVar 0) (tCons (tOp rAdd (tCB (rLen K) (tCons (tVar 8) tNil)) (tC (.int 1))) tNil))) (gName 9))
  (tDrop (tBM K "list" rInsert (tVar 8) (tCons (tVar 9) (tCons (tOp (rIxL K) (tLst (tCons (tTup (tCons (tC (.str "price")) (tCons (tC (.int 5)) (tCons (tC (.int 4)) (tCons (tC (.int 1)) tNil))))) (tCons (tC .non) (tCons (tTup (tCons (tC (.str "fee")) (tCons (tC (.int 1)) (tCons (tC (.int 2)) (tCons (tC (.bl true)) tNil))))) tNil)))) (tCall (sp_Ltake K) [] E0 (tCons (tVar 0) (tCons (tC (.int 3)) tNil)))) tNil)))))
  tNext)
  (tRet (tTup (tCons (tC (.str "lay")) (tCons (tVar 5) (tCons (tVar 8) (tCons (tVar 9) tNil))))))))))
  tNext)
  (tSeq (tIfS (tTest (tOp rEq (tVar 4) (tC (.int 12))))
  (tRet (tTup (tCons (tC (.str "tidy")) (tCons (tVar 5) tNil))))
  tNext)
  (tRet (tTup (tCons (tC (.str "undo")) tNil)))))))))
theorem pure_Ldeed {K : PySem.W.Frag} {x y z w : V} {H : Hp} {Q : VK} {E : XK} (h : sp_Ldeed K [x, y, z, w] H Q E) : t_Ldeed K { nx := fun _ H' => Q .non H', rt := Q } [some x, some y, some z, some w, none, none, none, none, none, none, none] H := by
  obtain ⟨x, y, z, w, e, t, b, s, day, p, ns, rfl, rfl, d0, d1, T, rfl, hS, hnp, hl, q⟩ := h
  cases e
  unfold t_Ldeed
  walk_at "ss"
  rename_i way H1 w0 w1 T1 k1 pn hpn a1 H2 a10 a11 T2 k2 a2 H3 a20 a21 T3 k3 pi hpi a3 H4 a30 a31 T4 k4 ix hix
  have k04 : Kp [t, b] H H4 := kp_tr k4 (kp_new hpi (kp_tr k3 (kp_tr k2 (kp_new hpn k1))))
  have npn : pn ∉ [t, b] := ni_tape hpn T1
  have hn4 : H4 pn = some (.lst [.str "main", .str "late", .str "maina", .str "x"]) := k4 _ _ (at_new hpi (k3 _ _ (k2 _ _ upd_same npn) npn)) npn
  obtain ⟨nm, hnm, nok⟩ : ∃ n : Str, atI ([.str "main", .str "late", .str "maina", .str "x"] : List V) ix = some (.str n) ∧ PyData.strOk n = true := by
    have : ix = 0 ∨ ix = 1 ∨ ix = 2 ∨ ix = 3 := by omega
    rcases this with rfl | rfl | rfl | rfl
    · exact ⟨"main", rfl, by decide +kernel⟩
    · exact ⟨"late", rfl, by decide +kernel⟩
    · exact ⟨"maina", rfl, by decide +kernel⟩
    · exact ⟨"x", rfl, by decide +kernel⟩
  refine g_ixL (SqL.of hn4) hnm ?_
  replace hS := SqL.kp k04 hnp hS
  clear k4 k3 k2 k1 hpn hpi T1 T2 T3 hix hn4 npn hnm a10 a11 a20 a21 a30 a31
  walk_at "ss"
  refine ite_d (fun z1 => ?_) fun z1 => ?_
  · walk_at "ss"
    refine g_Lstay2 T4 d0 fun ps c g H5 T5 k5 f5 h5 s5 => ?_
    walk_at "ss"
    rename_i p6 hp6
    have k5' := kp_tr k5 k04
    exact q _ [] (.take c g) _ (tape_new hp6 T5) (kp_new hp6 k5') (fr_kp hp6 k5' (ni_tape hp6 T5)) (by simp) ⟨ps, upd_same, at_new hp6 h5⟩ s5
  walk_at "ss"
  dsimp only
  with_reducible refine g_seq ?_
  walk_at "ss"
  refine ite_d (fun z2 => ?_) fun z2 => ?_
  · walk_at "ss"
    refine ⟨p, ns, rfl, hS, fun ns' p5 pm so hp5 => ?_⟩
    have ln := pm.length_eq
    have T5 := tape_new (o := .lst (ns'.map V.int)) hp5 T4
    have k5 := kp_new (o := .lst (ns'.map V.int)) hp5 k04
    have h5 : (upd H4 p5 (.lst (ns'.map V.int))) p5 = some (.lst (ns'.map V.int)) := upd_same
    have n5 : p5 ∉ [t, b] := ni_tape hp5 T4
    generalize upd H4 p5 (.lst (ns'.map V.int)) = G5 at T5 k5 h5 ⊢
    clear hp5 pm so hS
    iterate 18 (try walk_at "s1")
    rename_i v6 H6 v60 v61 T6 k6 p6 hp6 l6 hl6
    obtain ⟨ms, ems⟩ : ∃ ms : List Int, ms = ns' ++ [v6, -1] := ⟨_, rfl⟩
    have em : ns'.map V.int ++ [V.int v6, V.int (-1)] = ms.map V.int := by rw [ems, List.map_append]; rfl
    have lm : ms.length = ns'.length + 2 := by rw [ems, List.length_append]; rfl
    rw [em]
    have T7 := tape_new (o := .lst (ms.map V.int)) hl6 (tape_new (o := .lst [.int v6, .int (-1)]) hp6 T6)
    have k7 := kp_new (o := .lst (ms.map V.int)) hl6 (kp_new (o := .lst [.int v6, .int (-1)]) hp6 (kp_tr k6 k5))
    have h7 : (upd (upd H6 p6 (.lst [.int v6, .int (-1)])) l6 (.lst (ms.map V.int))) l6 = some (.lst (ms.map V.int)) := upd_same
    have n7 : l6 ∉ [t, b] := ni_tape hl6 (tape_new (o := .lst [.int v6, .int (-1)]) hp6 T6)
    generalize upd (upd H6 p6 (.lst [.int v6, .int (-1)])) l6 (.lst (ms.map V.int)) = G7 at T7 k7 h7 ⊢
    clear hl6 hp6 em ems k6 T6 k5 T5 h5 n5
    iterate 16 (try walk_at "s1")
    refine g_take (m := ((ms.map V.int).length : Int)) T7 (by rw [List.length_map]; omega) (by rw [List.length_map]; omega) fun a H8 a0 a1 T8 k8 => ?_
    rw [List.length_map] at a1
    obtain ⟨k, hk⟩ := at_int a0 a1
    refine g_ixL (SqL.of (k8 _ _ h7 n7)) hk ?_
    walk_at "ss"
    rename_i p9 hp9
    have kk := kp_tr k8 k7
    exact q _ [] (.back k) _ (tape_new hp9 T8) (kp_new hp9 kk) (fr_kp hp9 kk (ni_tape hp9 T8)) (by simp) upd_same trivial
  walk_at "ss"
  dsimp only
  with_reducible refine g_seq ?_
  walk_at "ss"
  refine ite_d (fun z3 => ?_) fun z3 => ?_
  · walk_at "ss"
    rename_i b1 H5 b10 b11 T5 k5 b2 H6 b20 b21 T6 k6 pj hpj b3 H7 b30 b31 T7 k7 mm hmm
    have k07 : Kp [t, b] H H7 := kp_tr k7 (kp_new hpj (kp_tr k6 (kp_tr k5 k04)))
    have m0 : 0 ≤ mm ∧ mm < 26 := by omega
    clear k5 k6 k7 hpj T5 T6 T4 k04 hS
    refine lc_dr (lo := 0) (n := mm.toNat) T7 RuT (fun _ _ _ _ k h => h.tk k) RuleD.good (by omega) ?_ ?_
    · intro D2 i H8 N2 acc hD2 hi T8 hacc2 nD2 hN2
      walk_at "ss"
      rename_i v r H9 T9 k9 hr hg
      exact hN2 _ _ _ hr hg T9 k9
    intro D H8 ys rs hD T8 k8 h8 R8 l8 g8
    have fD : Fr H D := fr_kp hD k07 (ni_tape hD T7)
    have nD : D ∉ [t, b] := ni_tape hD T7
    have k08 := k07.trans k8
    walk_at "ss"
    dsimp only
    with_reducible refine jn (P := fun σ H' => ∃ (ys : List V) (ds : List PyData) (b0 : Int) (v10 : Option V), σ = [some (.ref t), some (.int day), some z, some (.ref p), some (.int way), some (.str nm), none, some (.int mm), some (.ref D), some (.int b0), v10] ∧ Tape H' t b s ∧ Kp [t, b] H H' ∧ H' D = some (.lst ys) ∧ Tds H' ys ds ∧ ds.length ≤ 30 ∧ ∀ d ∈ ds, Sh 3 d) ?_ fun N hN => ?_
    · rintro σ H9 ⟨ys, ds, b0, v10, rfl, T9, k9, h9, t9, l9, g9⟩
      walk_at "ss"
      rename_i p9 hp9
      exact q _ [D] (.lay nm ds) _ (tape_new hp9 T9) (kp_new hp9 k9) (fr_kp hp9 k9 (ni_tape hp9 T9)) (fun x hx => by rw [List.mem_singleton.mp hx]; exact fD) ⟨D, ys, b0, upd_same, at_new hp9 h9, tds_new hp9 t9, by simp⟩ ⟨l9, g9, nok⟩
    walk_at "ss"
    rename_i v9 H9 v90 v91 T9 k9
    have h9 := k9 _ _ h8 nD
    have R9 := ru_kp k9 T8 R8
    have lr : rs.length ≤ 25 := by omega
    have yl := Paired.length R9
    have kk9 := k08.trans k9
    refine ite_d (fun z => ?_) fun z => ?_
    · walk_at "ss"
      rename_i bi H10 bi0 bi1 T10 k10 pa hpa pb hpb pl hpl b3 H11 b30 b31 T11 k11 vv hvv
      have T10b := tape_new (o := .tup [.str "fee", .int 1, .int 2, .bl true]) hpb (tape_new (o := .tup [.str "price", .int 5, .int 4, .int 1]) hpa T10)
      have T10c := tape_new (o := .lst [.ref pa, .non, .ref pb]) hpl T10b
      have k11' : Kp [t, b] H9 H11 := kp_tr k11 (kp_new hpl (kp_new hpb (kp_new hpa k10)))
      have tk11 := tk_kp T10c k11
      have h11 := k11' _ _ h9 nD
      have R11 := ru_tds (ru_kp k11' T9 R9)
      obtain ⟨db, hdb, sdb⟩ : ∃ db, Td H11 vv db ∧ Sh 3 db := by
        simp only [List.mem_cons, List.not_mem_nil, or_false] at hvv
        rcases hvv with rfl | rfl | rfl
        · refine ⟨.tuple [.str "price", .int 5, .int 4, .int 1], .tup (tk11 _ _ (at_new hpl (at_new hpb upd_same))) (.cons (.str _) (.cons (.int _) (.cons (.int _) (.cons (.int _) .nil)))), sh_tup fun x hx => ?_⟩
          simp only [List.mem_cons, List.not_mem_nil, or_false] at hx
          rcases hx with rfl | rfl | rfl | rfl
          · exact sh_str (by decide +kernel) _
          · exact sh_int _ _
          · exact sh_int _ _
          · exact sh_int _ _
        · exact ⟨.none, .non, sh_non _⟩
        · refine ⟨.tuple [.str "fee", .int 1, .int 2, .bool true], .tup (tk11 _ _ (at_new hpl upd_same)) (.cons (.str _) (.cons (.int _) (.cons (.int _) (.cons (.bl _) .nil)))), sh_tup fun x hx => ?_⟩
          simp only [List.mem_cons, List.not_mem_nil, or_false] at hx
          rcases hx with rfl | rfl | rfl | rfl
          · exact sh_str (by decide +kernel) _
          · exact sh_int _ _
          · exact sh_int _ _
          · exact sh_bl _ _
      refine g_insertV h11 (by rw [sizeLine_eq]; omega) bi0 (by omega) ?_
      have tkD : Tk H11 (upd H11 D (.lst (ys.take bi.toNat ++ [vv] ++ ys.drop bi.toNat))) := tk_put h11
      exact hN _ _ ⟨_, (rs.map RuleD.told).take bi.toNat ++ [db] ++ (rs.map RuleD.told).drop bi.toNat, bi, none, rfl, tape_own fD T T11, kp_own fD (kk9.trans k11'), upd_same, tds_tk tkD (tds_app (tds_drop _ R11) (tds_app (.cons hdb .nil) (tds_take _ R11))), by simp only [List.length_append, List.length_take, List.length_drop, List.length_map, List.length_singleton]; omega, fun d hd => by
        have tl : ∀ d ∈ rs.map RuleD.told, Sh 3 d := fun d hd => by obtain ⟨r, hr, rfl⟩ := List.mem_map.mp hd; exact (sh_rule (g8 r hr)).mono (by decide)
        rcases List.mem_append.mp hd with hd | hd
        · rcases List.mem_append.mp hd with hd | hd
          · exact tl d (List.mem_of_mem_take hd)
          · rw [List.mem_singleton.mp hd]; exact sdb
        · exact tl d (List.mem_of_mem_drop hd)⟩
    · walk_at "ss"
      exact hN _ _ ⟨ys, rs.map RuleD.told, -1, none, rfl, T9, kk9, h9, ru_tds R9, by rw [List.length_map]; omega, fun d hd => by obtain ⟨r, hr, rfl⟩ := List.mem_map.mp hd; exact (sh_rule (g8 r hr)).mono (by decide)⟩
  walk_at "ss"
  refine ite_d (fun z4 => ?_) fun z4 => ?_
  · walk_at "ss"
    rename_i p6 hp6
    exact q _ [] (.tidy nm) _ (tape_new hp6 T4) (kp_new hp6 k04) (fr_kp hp6 k04 (ni_tape hp6 T4)) (by simp) upd_same nok
  walk_at "ss"
  rename_i p6 hp6
  exact q _ [] .undo _ (tape_new hp6 T4) (kp_new hp6 k04) (fr_kp hp6 k04 (ni_tape hp6 T4)) (by simp) upd_same trivial
/-! YXy: what stands, as data; what is seen of an inn (main, late). -/
open PySem PySem.Spec PyProof.Rows L2 TL
def stnD (e : Stn) : PyData := .tuple [.int e.no, .tuple [.int e.c, .int e.g], .int e.coins, .list (e.cut.map ptD)]
/-- a row of what stands, its list among some places -/
def SdP (H : Hp) (P : List Addr) (v : V) (e : Stn) : Prop := ∃ w s q ys, v = .ref w ∧ H w = some (.tup [.int e.no, .ref s, .int e.coins, .ref q]) ∧ H s = some (.tup [.int e.c, .int e.g]) ∧ H q = some (.lst ys) ∧ Tds H ys (e.cut.map ptD) ∧ q ∈ P
theorem SdP.mut {H H' : Hp} {L P : List Addr} {v : V} {e : Stn} (k : Kp L H H') (m : Muts H L) (n : ∀ x ∈ P, x ∉ L) (h : SdP H P v e) : SdP H' P v e := by
  obtain ⟨w, s, q, ys, a, b, c, d, t, p⟩ := h
  have tk := tk_mut k m
  exact ⟨w, s, q, ys, a, tk _ _ b, tk _ _ c, k _ _ d (n q p), tds_tk tk t, p⟩
theorem SdP.wide {H : Hp} {P P' : List Addr} {v : V} {e : Stn} (w : ∀ x ∈ P, x ∈ P') (h : SdP H P v e) : SdP H P' v e := let ⟨x, s, q, ys, a, b, c, d, t, p⟩ := h; ⟨x, s, q, ys, a, b, c, d, t, w q p⟩
theorem sdP_of {H0 H : Hp} {D : Addr} : ∀ {xs : List V} {tk : List Stn}, Paired (SdFr H0 D H) xs tk → ∃ P : List Addr, (∀ x ∈ P, Fr H0 x ∧ ∃ o, H x = some o) ∧ Paired (SdP H P) xs tk
  | _, _, .nil => ⟨[], by simp, .nil⟩
  | _, _, .cons ⟨w, s, q, ys, a, b, c, d, t, n, f⟩ r => by
    obtain ⟨P, h1, h2⟩ := sdP_of r
    refine ⟨q :: P, fun x hx => ?_, .cons ⟨w, s, q, ys, a, b, c, d, t, by simp⟩ (Paired.mapP h2 fun _ _ z => z.wide fun x hx => List.mem_cons_of_mem _ hx)⟩
    rcases List.mem_cons.mp hx with rfl | hx
    · exact ⟨f, _, d⟩
    · exact h1 x hx
theorem dp_sd {K : PySem.W.Frag} {P : List Addr} {H : Hp} {v : V} {e : Stn} (h : SdP H P v e) : Dp K H v (stnD e) := by
  obtain ⟨w, s, q, ys, rfl, b, c, d, t, n⟩ := h
  exact .tup (SqT.of b) (.cons (.int _) (.cons (.tup (SqT.of c) (.cons (.int _) (.cons (.int _) .nil))) (.cons (.int _) (.cons (.lst (SqL.of d) (tds_dp t)) .nil))))
theorem dp_sds {K : PySem.W.Frag} {P : List Addr} {H : Hp} : ∀ {xs : List V} {tk : List Stn}, Paired (SdP H P) xs tk → DpAll K H xs (tk.map stnD)
  | _, _, .nil => .nil
  | _, _, .cons h t => .cons (dp_sd h) (dp_sds t)
theorem sh_pt (p : Pt) (n : Nat) : Sh (n + 1) (ptD p) := sh_tup fun x hx => by
  simp at hx
  rcases hx with rfl | rfl | rfl <;> exact sh_int _ _
theorem sh_stn (e : Stn) : Sh 3 (stnD e) := sh_tup fun x hx => by
  simp at hx
  rcases hx with rfl | rfl | rfl | rfl
  · exact sh_int _ _
  · exact sh_tup fun y hy => by
      simp at hy
      rcases hy with rfl | rfl <;> exact sh_int _ _
  · exact sh_int _ _
  · exact sh_lst fun y hy => by
      obtain ⟨p, -, rfl⟩ := List.mem_map.mp hy
      exact sh_pt p 0
theorem sh_stns (tk : List Stn) : Sh 4 (.list (tk.map stnD)) := sh_lst fun x hx => by
  obtain ⟨e, -, rfl⟩ := List.mem_map.mp hx
  exact sh_stn e
/-- rules of a name -/
abbrev rulesS (st : Ist) (n : Str) : List RuleD := (lookS st.sh n).getD []
def SeenD (m : Int) (st : Ist) : PyData := .tuple [.list (st.tk.map stnD), .list ((fullL m st.tk).map .int), .list ((rulesS st "main").map RuleD.told), .list ((rulesS st "late").map RuleD.told)]
structure SeenAt (H : Hp) (P : List Addr) (v : V) (m : Int) (st : Ist) : Prop where
  mk :: (it : ∃ p a1 a2 a3 a4 xs ys zs, v = .ref p ∧ H p = some (.tup [.ref a1, .ref a2, .ref a3, .ref a4]) ∧ H a1 = some (.lst xs) ∧ Paired (SdP H P) xs st.tk ∧ H a2 = some (.lst ((fullL m st.tk).map V.int)) ∧ H a3 = some (.lst ys) ∧ Rus H ys (rulesS st "main") ∧ H a4 = some (.lst zs) ∧ Rus H zs (rulesS st "late") ∧ a1 ∈ P ∧ a2 ∈ P ∧ a3 ∈ P ∧ a4 ∈ P)
theorem SeenAt.mut {H H' : Hp} {L P : List Addr} {v : V} {m : Int} {st : Ist} (k : Kp L H H') (mu : Muts H L) (n : ∀ x ∈ P, x ∉ L) (h : SeenAt H P v m st) : SeenAt H' P v m st := by
  obtain ⟨p, a1, a2, a3, a4, xs, ys, zs, e, h0, h1, p1, h2, h3, r3, h4, r4, m1, m2, m3, m4⟩ := h.it
  have tk := tk_mut k mu
  exact ⟨p, a1, a2, a3, a4, xs, ys, zs, e, tk _ _ h0, k _ _ h1 (n _ m1), Paired.mapP p1 fun _ _ z => z.mut k mu n, k _ _ h2 (n _ m2), k _ _ h3 (n _ m3), r3.tk tk, k _ _ h4 (n _ m4), r4.tk tk, m1, m2, m3, m4⟩
theorem SeenAt.wide {H : Hp} {P P' : List Addr} {v : V} {m : Int} {st : Ist} (w : ∀ x ∈ P, x ∈ P') (h : SeenAt H P v m st) : SeenAt H P' v m st := by
  obtain ⟨p, a1, a2, a3, a4, xs, ys, zs, e, h0, h1, p1, h2, h3, r3, h4, r4, m1, m2, m3, m4⟩ := h.it
  exact ⟨p, a1, a2, a3, a4, xs, ys, zs, e, h0, h1, Paired.mapP p1 fun _ _ z => z.wide w, h2, h3, r3, h4, r4, w _ m1, w _ m2, w _ m3, w _ m4⟩
theorem SeenAt.dp {K : PySem.W.Frag} {H : Hp} {P : List Addr} {v : V} {m : Int} {st : Ist} (h : SeenAt H P v m st) : Dp K H v (SeenD m st) := by
  obtain ⟨p, a1, a2, a3, a4, xs, ys, zs, rfl, h0, h1, p1, h2, h3, r3, h4, r4, -⟩ := h.it
  exact .tup (SqT.of h0) (.cons (.lst (SqL.of h1) (dp_sds p1)) (.cons (.lst (SqL.of h2) (dp_ints _)) (.cons (dp_row (SqL.of h3) r3) (.cons (dp_row (SqL.of h4) r4) .nil))))
theorem sh_seen {m : Int} {st : Ist} (o : ShOk st.sh) : Sh 6 (SeenD m st) := sh_tup fun x hx => by
  have gr : ∀ n : Str, ∀ r ∈ rulesS st n, RuleD.good r := fun n r hr => by
    unfold rulesS lookS at hr
    cases e : st.sh.find? (fun e => decide (e.1 = n)) with
    | none => rw [e] at hr; simp at hr
    | some u =>
      rw [e] at hr
      exact o.good u (List.mem_of_find?_eq_some e) r hr
  simp at hx
  rcases hx with rfl | rfl | rfl | rfl
  · exact (sh_stns _).mono (by decide)
  · exact (sh_ints _ 0).mono (by decide)
  · exact sh_lst (n := 4) fun d hd => by
      obtain ⟨r, hr, rfl⟩ := List.mem_map.mp hd
      exact (sh_rule (gr _ r hr)).mono (by decide)
  · exact sh_lst (n := 4) fun d hd => by
      obtain ⟨r, hr, rfl⟩ := List.mem_map.mp hd
      exact (sh_rule (gr _ r hr)).mono (by decide)
/-! YTf: few rules drawn as in k72 and k73 (second family). -/
open PySem PySem.Spec PyProof.Rows L2
def t_Lfew (K : PySem.W.Frag) : TS :=
  (tSeq (tAsg (tLst tNil) (gName 3))
  (tSeq (tIfS (tTest (tOp rGt (tCall (sp_Ltake K) [] E0 (tCons (tVar 0) (tCons (tC (.int 8)) tNil))) (tC (.int 0))))
  (tDrop (tBM K "list" rAppend (tVar 3) (tCons (tTup (tCons (tC (.str "price")) (tCons (tC (.int 0)) (tCons (tOp rPow (tC (.int 10)) (tC (.int 6))) (tCons (tOp rAdd (tCall (sp_Ltake K) [] E0 (tCons (tVar 0) (tCons (tC (.int 3)) tNil))) (tC (.int 4))) tNil))))) tNil)))
  tNext)
  (tSeq (tFor (iRng1 (tCons (tCall (sp_Ltake K) [] E0 (tCons (tVar 0) (tCons (tOp rAdd (tVar 2) (tC (.int 1))) tNil))) tNil)) (gName 4)
  (tDrop (tBM K "list" rAppend (tVar 3) (tCons (tCall (sp_Lrule K) [] E0 (tCons (tVar 0) (tCons (tVar 1) tNil))) tNil))))
  (tRet (tVar 3)))))
theorem pure_Lfew {K : PySem.W.Frag} {x y z : V} {H : Hp} {Q : VK} {E : XK} (h : sp_Lfew K [x, y, z] H Q E) : t_Lfew K { nx := fun _ H' => Q .non H', rt := Q } [some x, some y, some z, none, none] H := by
  obtain ⟨x, y, z, e, t, b, s, m, n, rfl, rfl, rfl, T, h0, h1, n0, n1, q⟩ := h
  cases e
  unfold t_Lfew
  walk_at "ss"
  rename_i p3 hp3
  have n3 : p3 ∉ [t, b] := ni_tape hp3 T
  have tp3 : ∀ {H : Hp} {o : HO}, Tape H t b s → Tape (upd H p3 o) t b s := fun T' => tape_own hp3 T T'
  with_reducible refine jn (P := fun σ H' => ∃ ys rs, σ = [some (.ref t), some (.int m), some (.int n), some (.ref p3), none] ∧ Tape H' t b s ∧ Kp [t, b] H H' ∧ H' p3 = some (.lst ys) ∧ Rus H' ys rs ∧ rs.length ≤ 1 ∧ ∀ r ∈ rs, RuleD.good r) ?_ fun N hN => ?_
  · rintro σ H1 ⟨ys, rs, rfl, T1, k1, h3, R1, l1, g1⟩
    walk_at "ss"
    rename_i mm H2 m0 m1 T2 k2
    have l1' := ru_len R1
    refine for_range (lo := 0) (n := mm.toNat) (fun i σ H' => ∃ v4 ys rs, σ = [some (.ref t), some (.int m), some (.int n), some (.ref p3), v4] ∧ Tape H' t b s ∧ Kp [t, b] H H' ∧ H' p3 = some (.lst ys) ∧ Rus H' ys rs ∧ rs.length ≤ 1 + i ∧ ∀ r ∈ rs, RuleD.good r)
      ⟨_, ys, rs, rfl, T2, k1.trans k2, k2 _ _ h3 n3, ru_kp k2 T1 R1, by omega, g1⟩ ?_ ?_
    · rintro i σ H3 hi ⟨v4, ys, rs, rfl, T3, k3, h3, R3, l3, g3⟩
      have l3' := ru_len R3
      walk_at "ss"
      rename_i v r H4 T4 k4 hr hg
      have h34 := k4 _ _ h3 n3
      exact ⟨_, ys ++ [v], rs ++ [r], rfl, tp3 T4, kp_own hp3 (k3.trans k4), upd_same, ru_put h34 (ru_app (ru_kp k4 T3 R3) (.cons hr .nil)), by rw [List.length_append, List.length_singleton]; omega, gd_app g3 fun r' hr' => by rw [List.mem_singleton.mp hr']; exact hg⟩
    · rintro σ H3 ⟨v4, ys, rs, rfl, T3, k3, h3, R3, l3, g3⟩
      walk_at "ss"
      exact q p3 ys rs H3 T3 k3 hp3 h3 R3 (by omega) g3
  · walk_at "ss"
    rename_i d H1 d0 d1 T1 k1
    refine ite_d (fun z => ?_) fun z => ?_
    · walk_at "ss"
      rename_i c H2 c0 c1 T2 k2 p4 hp4
      have a2 : H2 p3 = some (.lst []) := k2 _ _ (k1 _ _ upd_same n3) n3
      refine hN _ _ ⟨[.ref p4], [⟨.price, 0, 1000000, .int (c + 4)⟩], rfl, tp3 (by walk_at "tp"), ?_, upd_same, ?_, by simp, fun r hr => ?_⟩
      · exact kp_own hp3 (kp_new hp4 (kp_tr k2 (kp_tr k1 (kp_own hp3 (Kp.refl _ _)))))
      · exact ru_put (at_new hp4 a2) (.cons ⟨p4, .int (c + 4), rfl, upd_same, .int _⟩ .nil)
      · rw [List.mem_singleton.mp hr]
        exact ⟨(show (0 : Int) ≤ 0 by decide), (show (0 : Int) ≤ 1000000 by decide), (show (1000000 : Int) ≤ 1000000 by decide), by show (isNone (.int (c + 4)) || isCoins (.int (c + 4))) = true; rw [coins_ok (by omega) (by omega)]; rfl⟩
    · walk_at "ss"
      refine hN _ _ ⟨[], [], rfl, T1, ?_, k1 _ _ upd_same n3, ru_nil, by simp, by simp⟩
      exact kp_tr k1 (kp_own hp3 (Kp.refl _ _))
/-! k79: undone to the beginning. -/
open PySem PySem.Spec PyProof.Rows L2 TL
/-- both names are there -/
def NamesOk (st : Ist) : Prop := lookS st.sh "main" ≠ none ∧ lookS st.sh "late" ≠ none
def sp_Lseen (K : PySem.W.Frag) : Sp := Sp1 fun x H Q E => CJd K ∧ ∃ (M W : List Addr) (m : Int) (st : Ist) (pa : List Ist), IsAt K H M W x m st pa ∧ NamesOk st ∧ ∀ (v : V) (P : List Addr) (H' : Hp), Same H H' → (∀ x ∈ P, Fr H x ∧ ∃ o, H' x = some o) → SeenAt H' P v m st → Q v H'
theorem g_Lseen {K : PySem.W.Frag} {M W : List Addr} {x : V} {m : Int} {st : Ist} {pa : List Ist} {H : Hp} {Q : VK} {E : XK} (cj : CJd K) (I : IsAt K H M W x m st pa) (n : NamesOk st) (q : ∀ (v : V) (P : List Addr) (H' : Hp), Same H H' → (∀ x ∈ P, Fr H x ∧ ∃ o, H' x = some o) → SeenAt H' P v m st → Q v H') : sp_Lseen K ([x] ++ []) H Q E := ⟨_, rfl, cj, M, W, m, st, pa, I, n, q⟩
/-- what is of an inn behind deeds: nothing that was another's -/
def NwA (M W M' W' : List Addr) (H : Hp) : Prop := (∀ y o, H y = some o → y ∉ M → y ∉ M') ∧ ∀ y o, H y = some o → y ∉ M ++ W → y ∉ M' ++ W'
def sp_Lplayed (K : PySem.W.Frag) : Sp := Sp3 fun x y z H Q E => CJd K ∧ ∃ (M W : List Addr) (m : Int) (st0 : Ist) (day : Int) (a : Addr) (ns : List Int), IsAt K H M W x m st0 [] ∧ NamesOk st0 ∧ st0.co = 0 ∧ y = .int day ∧ 0 ≤ day ∧ day ≤ 999989 ∧ z = .ref a ∧ H a = some (.lst (ns.map V.int)) ∧ a ∉ M ∧ ns.length ≤ 7 ∧ ∀ H' M' W', Kp M H H' → IsAt K H' M' W' x m st0 [] → NwA M W M' W' H → Q (.bl true) H'
/-- what a deed is, as data -/
def DdD (b : Int) : Dd → PyData
  | .take c g => .tuple [.str "take", .tuple [.int c, .int g]]
  | .back k => .tuple [.str "back", .int k]
  | .lay n ds => .tuple [.str "lay", .str n, .list ds, .int b]
  | .tidy n => .tuple [.str "tidy", .str n]
  | .undo => .tuple [.str "undo"]
def isUndo : Dd → Bool
  | .undo => true
  | _ => false
theorem dp_dd {K : PySem.W.Frag} {H : Hp} {P : List Addr} {t : Addr} {d : Dd} (h : DdAt H P t d) : ∃ b, Dp K H (.ref t) (DdD b d) := by
  cases d with
  | take c g => obtain ⟨s, h1, h2⟩ := h; exact ⟨0, .tup (SqT.of h1) (.cons (.str _) (.cons (.tup (SqT.of h2) (.cons (.int _) (.cons (.int _) .nil))) .nil))⟩
  | back k => exact ⟨0, .tup (SqT.of h) (.cons (.str _) (.cons (.int _) .nil))⟩
  | lay n ds => obtain ⟨p, xs, b, h1, h2, h3, -⟩ := h; exact ⟨b, .tup (SqT.of h1) (.cons (.str _) (.cons (.str _) (.cons (.lst (SqL.of h2) (tds_dp h3)) (.cons (.int _) .nil))))⟩
  | tidy n => exact ⟨0, .tup (SqT.of h) (.cons (.str _) (.cons (.str _) .nil))⟩
  | undo => exact ⟨0, .tup (SqT.of h) (.cons (.str _) .nil)⟩
theorem sh_dd {b : Int} {d : Dd} (o : DrawnOk d) : Sh 6 (DdD b d) := by
  cases d with
  | take c g =>
    refine sh_tup fun x hx => ?_
    simp only [List.mem_cons, List.not_mem_nil, or_false] at hx
    rcases hx with rfl | rfl
    · exact sh_str (by decide +kernel) _
    · refine sh_tup fun y hy => ?_
      simp only [List.mem_cons, List.not_mem_nil, or_false] at hy
      rcases hy with rfl | rfl <;> exact sh_int _ _
  | back k =>
    refine sh_tup fun x hx => ?_
    simp only [List.mem_cons, List.not_mem_nil, or_false] at hx
    rcases hx with rfl | rfl
    · exact sh_str (by decide +kernel) _
    · exact sh_int _ _
  | lay z ds =>
    refine sh_tup fun x hx => ?_
    simp only [List.mem_cons, List.not_mem_nil, or_false] at hx
    rcases hx with rfl | rfl | rfl | rfl
    · exact sh_str (by decide +kernel) _
    · exact sh_str o.2.2 _
    · exact sh_lst (n := 4) fun y hy => (o.2.1 y hy).mono (by decide)
    · exact sh_int _ _
  | tidy z =>
    refine sh_tup fun x hx => ?_
    simp only [List.mem_cons, List.not_mem_nil, or_false] at hx
    rcases hx with rfl | rfl
    · exact sh_str (by decide +kernel) _
    · exact sh_str o _
  | undo =>
    refine sh_tup fun x hx => ?_
    simp only [List.mem_cons, List.not_mem_nil, or_false] at hx
    rw [hx]
    exact sh_str (by decide +kernel) _
theorem eqv_undo {b : Int} (d : Dd) : PyData.eqv (DdD b d) (.tuple [.str "undo"]) = isUndo d := by
  cases d <;> simp [DdD, isUndo, PyData.eqv, PyData.eqvAll]
theorem DrawnOk.dd {st : Ist} {pa : List Ist} {d : Dd} (o : DrawnOk d) (c : st.co < 60) : DdOk st pa d := by
  cases d with
  | take c' g => exact ⟨o, c⟩
  | lay n ds => exact Nat.le_trans o.1 (by decide)
  | back k => trivial
  | tidy n => trivial
  | undo => trivial
theorem lookS_put {sh : Shf} {n z : Str} {rs : List RuleD} (h : lookS sh z ≠ none) (h2 : lookS sh n ≠ none) : lookS (putS sh n rs) z ≠ none := by
  have ie : ∀ {sh : Shf} {z : Str}, lookS sh z ≠ none ↔ ∃ u ∈ sh, u.1 = z := fun {sh z} => by
    unfold lookS
    cases e : sh.find? (fun e => decide (e.1 = z)) with
    | none =>
      rw [List.find?_eq_none] at e
      simp only [Option.map_none, ne_eq, not_true_eq_false, false_iff]
      rintro ⟨u, hu, rfl⟩
      exact e u hu (by simp)
    | some u =>
      simp only [Option.map_some, ne_eq, reduceCtorEq, not_false_eq_true, true_iff]
      exact ⟨u, List.mem_of_find?_eq_some e, by simpa using List.find?_some e⟩
  rw [ie] at h h2 ⊢
  obtain ⟨v, hv, ev⟩ := h2
  unfold putS
  rw [if_pos (List.any_eq_true.mpr ⟨v, hv, by simpa using ev⟩)]
  obtain ⟨u, hu, e⟩ := h
  refine ⟨_, List.mem_map.mpr ⟨u, hu, rfl⟩, ?_⟩
  split <;> exact e
/-- behind a deed -/
theorem step_good {m : Int} {st st' : Ist} {pa pa' : List Ist} {d : Dd} {w : Str × PyData} (h : stepF m st pa d = (w, some (st', pa'))) (u : isUndo d = false) (n : NamesOk st) (c : 0 ≤ st.co) : w.1 = "ok" ∧ pa' = pa ++ [st] ∧ NamesOk st' ∧ st'.co ≤ st.co + 1 := by
  cases d with
  | undo => cases u
  | take c' g =>
    unfold stepF at h
    dsimp only at h
    split at h
    · cases h
    · cases h
      exact ⟨rfl, rfl, n, Int.le_refl _⟩
  | back k =>
    unfold stepF at h
    dsimp only at h
    split at h
    · cases h
      exact ⟨rfl, rfl, n, by show st.co ≤ _; omega⟩
    · cases h
  | lay z ds =>
    unfold stepF at h
    dsimp only at h
    split at h
    · cases h
    · rename_i rs e
      split at h
      · cases h
      · split at h
        · cases h
        · cases h
          exact ⟨rfl, rfl, ⟨lookS_put n.1 (by rw [e]; simp), lookS_put n.2 (by rw [e]; simp)⟩, by show st.co ≤ _; omega⟩
  | tidy z =>
    unfold stepF at h
    dsimp only at h
    split at h
    · cases h
    · rename_i rs e
      cases h
      exact ⟨rfl, rfl, ⟨lookS_put n.1 (by rw [e]; simp), lookS_put n.2 (by rw [e]; simp)⟩, by show st.co ≤ _; omega⟩
theorem step_bad {m : Int} {st : Ist} {pa : List Ist} {d : Dd} {w : Str × PyData} (h : stepF m st pa d = (w, none)) : w.1 ≠ "ok" := by
  cases d with
  | undo =>
    unfold stepF at h
    dsimp only at h
    split at h
    · cases h; decide
    · cases h
  | take c' g =>
    unfold stepF at h
    dsimp only at h
    split at h
    · cases h
      show ("off" : Str) ≠ "ok"
      decide
    · cases h
  | back k =>
    unfold stepF at h
    dsimp only at h
    split at h
    · cases h
    · cases h; decide
  | lay z ds =>
    unfold stepF at h
    dsimp only at h
    split at h
    · cases h; decide
    · split at h
      · cases h
        show ("no rule" : Str) ≠ "ok"
        decide
      · split at h
        · cases h; decide
        · cases h
  | tidy z =>
    unfold stepF at h
    dsimp only at h
    split at h
    · cases h; decide
    · cases h
theorem res_dp {K : PySem.W.Frag} {H0 H : Hp} {r : V} {w : Str} {d : PyData} (h : ResAt H0 H r w d) : Dp K H r (.tuple [.str w, d]) := by
  obtain ⟨t, x, rfl, h1, h2⟩ := h
  refine .tup (SqT.of h1) (.cons (.str _) (.cons ?_ .nil))
  rcases h2 with ⟨rfl, rfl⟩ | ⟨i, rfl, rfl⟩ | ⟨p, ns, rfl, h3, -, rfl⟩
  · exact .non
  · exact .int _
  · exact .lst (SqL.of h3) (dp_ints _)
theorem g_neUndo {K : PySem.W.Frag} {H : Hp} {P : List Addr} {pd pu : Addr} {d : Dd} {Q : VK} (h : DdAt H P pd d) (o : DrawnOk d) (hu : H pu = some (.tup [.str "undo"])) (q : Q (.bl (!isUndo d)) H) : rNeD K (.ref pd) (.ref pu) H Q := by
  obtain ⟨b, dp⟩ := dp_dd (K := K) h
  have su : Sh 6 (DdD 0 .undo) := sh_dd (d := .undo) trivial
  exact ⟨_, _, dp, .tup (SqT.of hu) (.cons (.str _) .nil), (sh_dd o).ok (by decide), su.ok (by decide), by rw [eqv_undo]; exact q⟩
theorem dp_seens {K : PySem.W.Frag} {H : Hp} {P : List Addr} {m : Int} : ∀ {vs : List V} {pa : List Ist}, Paired (fun v u => SeenAt H P v m u) vs pa → DpAll K H vs (pa.map (SeenD m))
  | _, _, .nil => .nil
  | _, _, .cons h t => .cons h.dp (dp_seens t)
theorem g_neNil {K : PySem.W.Frag} {H : Hp} {P : List Addr} {D e : Addr} {vs : List V} {m : Int} {pa : List Ist} {Q : VK} (h : H D = some (.lst vs)) (r : Paired (fun v u => SeenAt H P v m u) vs pa) (o : ∀ u ∈ pa, IstOk u) (he : H e = some (.lst [])) (q : Q (.bl (!decide (pa = []))) H) : rNeD K (.ref D) (.ref e) H Q :=
  ⟨_, .list [], .lst (SqL.of h) (dp_seens r), .lst (SqL.of he) .nil, (sh_lst (n := 6) fun x hx => by
    obtain ⟨u, hu, rfl⟩ := List.mem_map.mp hx
    exact sh_seen (o u hu).sh).ok (by decide), (sh_lst (n := 0) (by simp)).ok (by decide), by
    rw [eqv_nil]
    have : decide (pa.map (SeenD m) = []) = decide (pa = []) := by cases pa <;> rfl
    rw [this]
    exact q⟩
theorem seens_mut {H H' : Hp} {L P : List Addr} {m : Int} {vs : List V} {pa : List Ist} (k : Kp L H H') (mu : Muts H L) (n : ∀ x ∈ P, x ∉ L) (h : Paired (fun v u => SeenAt H P v m u) vs pa) : Paired (fun v u => SeenAt H' P v m u) vs pa := Paired.mapP h fun _ _ z => z.mut k mu n
theorem seens_wide {H : Hp} {P P' : List Addr} {m : Int} {vs : List V} {pa : List Ist} (w : ∀ x ∈ P, x ∈ P') (h : Paired (fun v u => SeenAt H P v m u) vs pa) : Paired (fun v u => SeenAt H P' v m u) vs pa := Paired.mapP h fun _ _ z => z.wide w
/-- deeds done, as the law goes through them -/
structure PInv (K : PySem.W.Frag) (M W : List Addr) (x : V) (m : Int) (st0 : Ist) (D : Addr) (H0 : Hp) (i : Nat) (H : Hp) (M' W' P : List Addr) (st : Ist) (pa : List Ist) (vs : List V) : Prop where
  kp : Kp M H0 H
  inn : IsAt K H M' W' x m st pa
  nw : NwA M W M' W' H0
  here : H D = some (.lst vs)
  off : D ∉ M' ++ W'
  seen : Paired (fun v u => SeenAt H P v m u) vs pa
  apart : ∀ y ∈ P, y ∉ M' ∧ y ≠ D ∧ ∃ o, H y = some o
  nm : NamesOk st
  nms : ∀ u ∈ pa, NamesOk u
  co : st.co ≤ i
  cos : ∀ u ∈ pa, u.co ≤ i
  len : pa.length ≤ i
  beg : ∃ r, pa ++ [st] = st0 :: r
section
variable {K : PySem.W.Frag} {M W : List Addr} {x : V} {m : Int} {st0 : Ist} {D : Addr} {H0 : Hp} {i j : Nat} {H H1 H2 : Hp} {M1 W1 P M2 W2 Pa : List Addr} {st st' : Ist} {pa pa' : List Ist} {vs : List V} {va : V} {w : Str × PyData} {d : Dd}
theorem PInv.same (I : PInv K M W x m st0 D H0 i H1 M1 W1 P st pa vs) (s : Same H1 H2) (l : i ≤ j) : PInv K M W x m st0 D H0 j H2 M1 W1 P st pa vs :=
  ⟨I.kp.trans (Same.kp s M), I.inn.same s, I.nw, s _ _ I.here, I.off, seens_mut (Same.kp s []) muts_nil (fun _ _ => by simp) I.seen, fun y hy => let ⟨a, b, o, c⟩ := I.apart y hy; ⟨a, b, o, s _ _ c⟩, I.nm, I.nms, by have := I.co; omega, fun u hu => by have := I.cos u hu; omega, by have := I.len; omega, I.beg⟩
theorem PInv.step (I : PInv K M W x m st0 D H0 i H1 M1 W1 P st pa vs) (k : Kp M1 H1 H2) (J : IsAt K H2 M2 W2 x m st' pa') (n : Nw M1 W1 M2 W2 H1) : Kp M H0 H2 ∧ NwA M W M2 W2 H0 ∧ H2 D = some (.lst vs) ∧ D ∉ M2 ++ W2 ∧ Paired (fun v u => SeenAt H2 P v m u) vs pa ∧ ∀ y ∈ P, y ∉ M2 ∧ y ≠ D ∧ ∃ o, H2 y = some o := by
  have nf : ∀ {y : Addr} {o : HO}, H1 y = some o → ¬ Fr H1 y := fun {y o} e f => by
    rw [show H1 y = none from f] at e
    cases e
  have dM : D ∉ M1 := fun z => I.off (List.mem_append_left _ z)
  refine ⟨fun b o e nb => k _ _ (I.kp _ _ e nb) (I.nw.1 b o e nb), ⟨fun y o e ny z => ?_, fun y o e ny z => ?_⟩, k _ _ I.here dM, fun z => ?_, seens_mut k I.inn.muts (fun y hy => (I.apart y hy).1) I.seen, fun y hy => ?_⟩
  · exact (n.1 y z).elim (I.nw.1 y o e ny) (nf (I.kp _ _ e ny))
  · have h1 := I.nw.2 y o e ny
    have h2 := nf (I.kp _ _ e fun z => ny (List.mem_append_left _ z))
    rcases List.mem_append.mp z with z | z
    · exact (n.1 y z).elim (fun z => h1 (List.mem_append_left _ z)) h2
    · exact (n.2 y z).elim (fun z => h1 (List.mem_append_right _ z)) h2
  · rcases List.mem_append.mp z with z | z
    · exact (n.1 D z).elim dM (nf I.here)
    · exact (n.2 D z).elim (fun z => I.off (List.mem_append_right _ z)) (nf I.here)
  · obtain ⟨a, b, o, c⟩ := I.apart y hy
    exact ⟨fun z => (n.1 y z).elim a (nf c), b, o, k _ _ c a⟩
end
theorem res_same {H0 H H' : Hp} {r : V} {w : Str} {d : PyData} (s : Same H H') (h : ResAt H0 H r w d) : ResAt H0 H' r w d := by
  obtain ⟨t, x, rfl, h1, h2⟩ := h
  refine ⟨t, x, rfl, s _ _ h1, ?_⟩
  rcases h2 with h | h | ⟨p, ns, rfl, h3, f, rfl⟩
  · exact .inl h
  · exact .inr (.inl h)
  · exact .inr (.inr ⟨p, ns, rfl, s _ _ h3, f, rfl⟩)
theorem sh_wn {w : Str} (h : PyData.strOk w = true) : Sh 2 (.tuple [.str w, .none]) := sh_tup fun x hx => by
  simp only [List.mem_cons, List.not_mem_nil, or_false] at hx
  rcases hx with rfl | rfl
  · exact sh_str h _
  · exact sh_non _
theorem beg_pop {l : List Ist} {a s0 : Ist} {r : List Ist} (h : l ++ [a] = s0 :: r) (n : l ≠ []) : ∃ r', l = s0 :: r' := by
  cases l with
  | nil => exact absurd rfl n
  | cons b l =>
    rw [List.cons_append] at h
    injection h with h1 h2
    exact ⟨l, by rw [h1]⟩
def sp_law (K : PySem.W.Frag) : Sp := Sp1 fun x H Q E => CFR K ∧ CFB K ∧ exErrs ED K = true ∧ exInit "NoRule" "number" K = true ∧ exInit "Off" "days" K = true ∧ exBare "TooMany" K = true ∧ exBare "NoName" K = true ∧ exBare "NoTaken" K = true ∧ exBare "NoDeed" K = true ∧ CFJ K ∧ CFF K ∧ ∃ (a : Addr) (ns : List Int), x = .ref a ∧ SqL K H a (ns.map V.int) ∧ ns.length ≤ 63 ∧ ∀ H', Q (.bl true) H'
theorem g_Lplayed {K : PySem.W.Frag} {M W : List Addr} {x : V} {m : Int} {st0 : Ist} {day : Int} {a : Addr} {ns : List Int} {H : Hp} {Q : VK} {E : XK} (cj : CJd K) (I : IsAt K H M W x m st0 []) (n : NamesOk st0) (c : st0.co = 0) (d0 : 0 ≤ day) (d1 : day ≤ 999989) (h : H a = some (.lst (ns.map V.int))) (na : a ∉ M) (l : ns.length ≤ 7) (q : ∀ H' M' W', Kp M H H' → IsAt K H' M' W' x m st0 [] → NwA M W M' W' H → Q (.bl true) H') : sp_Lplayed K ([x, .int day, .ref a] ++ []) H Q E := ⟨_, _, _, rfl, cj, M, W, m, st0, day, a, ns, I, n, c, rfl, d0, d1, rfl, h, na, l, q⟩
theorem nwA_trans {K : PySem.W.Frag} {M W M1 W1 M2 W2 : List Addr} {H H1 : Hp} (a : NwA M W M1 W1 H) (b : NwA M1 W1 M2 W2 H1) (k : Kp M H H1) : NwA M W M2 W2 H :=
  ⟨fun y o e n => b.1 y o (k _ _ e n) (a.1 y o e n), fun y o e n => b.2 y o (k _ _ e fun z => n (List.mem_append_left _ z)) (a.2 y o e n)⟩
theorem kpA_trans {M W M1 W1 : List Addr} {H H1 H2 : Hp} (a : NwA M W M1 W1 H) (k : Kp M H H1) (k2 : Kp M1 H1 H2) : Kp M H H2 := fun b o e n => k2 _ _ (k _ _ e n) (a.1 b o e n)
def t_Lseen (K : PySem.W.Frag) : TS :=
  (tRet (tTup (tCons (tMeth (He.ga K "Inn") "standing" (sp_Inn_standing K) [] E0 (tVar 0) tNil) (tCons (tMeth (He.ga K "Inn") "full" (sp_Inn_full K) [] E0 (tVar 0) tNil) (tCons (tMeth (He.ga K "Inn") "rules_of" (sp_Inn_rules_of K) [] E0 (tVar 0) (tCons (tC (.str "main")) tNil)) (tCons (tMeth (He.ga K "Inn") "rules_of" (sp_Inn_rules_of K) [] E0 (tVar 0) (tCons (tC (.str "late")) tNil)) tNil))))))
theorem pure_Lseen {K : PySem.W.Frag} {x : V} {H : Hp} {Q : VK} {E : XK} (h : sp_Lseen K [x] H Q E) : t_Lseen K { nx := fun _ H' => Q .non H', rt := Q } [some x] H := by
  obtain ⟨x, e, cj, M, W, m, st, pa, I, ⟨n1, n2⟩, q⟩ := h
  cases e
  unfold t_Lseen
  obtain ⟨rm, em⟩ := Option.ne_none_iff_exists'.mp n1
  obtain ⟨rl, el⟩ := Option.ne_none_iff_exists'.mp n2
  walk_at "ss"
  refine g_jrobj I (by decide) ?_
  walk_at "ss"
  refine g_jstand cj.ci I fun D1 xs1 H1 s1 f1 h1 R1 => ?_
  have I1 := I.same s1
  walk_at "ss"
  refine g_jrobj I1 (by decide) ?_
  walk_at "ss"
  refine g_jfull cj.ci I1 fun p2 H2 s2 f2 h2 => ?_
  have I2 := I1.same s2
  walk_at "ss"
  refine g_jrobj I2 (by decide) ?_
  walk_at "ss"
  refine g_jrules cj.ci cj.cf cj.cb I2 em fun p3 H3 ys s3 f3 h3 r3 => ?_
  have I3 := I2.same s3
  walk_at "ss"
  refine g_jrobj I3 (by decide) ?_
  walk_at "ss"
  refine g_jrules cj.ci cj.cf cj.cb I3 el fun p4 H4 zs s4 f4 h4 r4 => ?_
  walk_at "ss"
  rename_i p5 hp5
  obtain ⟨P, hP, RP⟩ := sdP_of R1
  have s15 := s2.trans (s3.trans (s4.trans (same_new (o := .tup [.ref D1, .ref p2, .ref p3, .ref p4]) hp5)))
  refine q _ (P ++ [D1, p2, p3, p4]) _ (s1.trans s15) (fun x hx => ?_) ⟨p5, D1, p2, p3, p4, xs1, ys, zs, rfl, upd_same, s15 _ _ h1, Paired.mapP RP fun _ _ z => (z.mut (Same.kp s15 []) muts_nil fun x _ => by simp).wide fun x hx => List.mem_append_left _ hx, (s3.trans (s4.trans (same_new hp5))) _ _ h2, (s4.trans (same_new hp5)) _ _ h3, ?_, at_new hp5 h4, ?_, by simp, by simp, by simp, by simp⟩
  · rcases List.mem_append.mp hx with hx | hx
    · obtain ⟨a, o, b⟩ := hP x hx
      exact ⟨a, o, s15 _ _ b⟩
    · simp only [List.mem_cons, List.not_mem_nil, or_false] at hx
      rcases hx with rfl | rfl | rfl | rfl
      · exact ⟨f1, _, s15 _ _ h1⟩
      · exact ⟨Same.free s1 f2, _, (s3.trans (s4.trans (same_new hp5))) _ _ h2⟩
      · exact ⟨Same.free (s1.trans s2) f3, _, (s4.trans (same_new hp5)) _ _ h3⟩
      · exact ⟨Same.free (s1.trans (s2.trans s3)) f4, _, at_new hp5 h4⟩
  · unfold rulesS
    rw [em]
    exact ru_new hp5 (ru_same s4 r3)
  · unfold rulesS
    rw [el]
    exact ru_new hp5 r4
def t_Lplayed (K : PySem.W.Frag) : TS :=
  (tSeq (tAsg (tLst tNil) (gName 3))
  (tSeq (tFor (iList K (tVar 2)) (gName 4)
  (tSeq (tAsg (tCall (sp_Lseen K) [] E0 (tCons (tVar 0) tNil)) (gName 5))
  (tSeq (tAsg (tCall (sp_Ldeed K) [] E0 (tCons (tCall (sp_Lbegin K) [] E0 (tCons (tVar 4) tNil)) (tCons (tVar 1) (tCons (tC .non) (tCons (tLc (iList K (tOp (rIxT K) (tVar 5) (tC (.int 0)))) (gName 8) tYes (tOp (rIxT K) (tVar 8) (tC (.int 0))) [8]) tNil))))) (gName 6))
  (tIfS (tTest (tOp (rNeD K) (tVar 6) (tTup (tCons (tC (.str "undo")) tNil))))
  (tSeq (tAsg (tCall (sp_Ldone K) [] E0 (tCons (tVar 0) (tCons (tVar 6) tNil))) (gName 7))
  (tIfS (tTest (tOp rEq (tOp (rIxT K) (tVar 7) (tC (.int 0))) (tC (.str "ok"))))
  (tDrop (tBM K "list" rAppend (tVar 3) (tCons (tVar 5) tNil)))
  (tIfS (tTest (tOp (rNeD K) (tCall (sp_Lseen K) [] E0 (tCons (tVar 0) tNil)) (tVar 5)))
  (tRet (tC (.bl false)))
  tNext)))
  (tIfS (tTest (tOp (rNeD K) (tVar 3) (tLst tNil)))
  (tIfS (tOr (tTest (tOp (rNeD K) (tCall (sp_Ldone K) [] E0 (tCons (tVar 0) (tCons (tVar 6) tNil))) (tTup (tCons (tC (.str "ok")) (tCons (tC .non) tNil))))) (tTest (tOp (rNeD K) (tCall (sp_Lseen K) [] E0 (tCons (tVar 0) tNil)) (tBM0 K "list" rPop (tVar 3)))))
  (tRet (tC (.bl false)))
  tNext)
  tNext)))))
  (tSeq (tWhile (tTest (tOp (rNeD K) (tVar 3) (tLst tNil)))
  (tIfS (tOr (tTest (tOp (rNeD K) (tCall (sp_Ldone K) [] E0 (tCons (tVar 0) (tCons (tTup (tCons (tC (.str "undo")) tNil)) tNil))) (tTup (tCons (tC (.str "ok")) (tCons (tC .non) tNil))))) (tTest (tOp (rNeD K) (tCall (sp_Lseen K) [] E0 (tCons (tVar 0) tNil)) (tBM0 K "list" rPop (tVar 3)))))
  (tRet (tC (.bl false)))
  tNext))
  (tRet (tAndV (tOp (rEqD K) (tCall (sp_Ldone K) [] E0 (tCons (tVar 0) (tCons (tTup (tCons (tC (.str "undo")) tNil)) tNil))) (tTup (tCons (tC (.str "no deed")) (tCons (tC .non) tNil)))) (tOp (rEqD K) (tCall (sp_Ldone K) [] E0 (tCons (tVar 0) (tCons (tTup (tCons (tC (.str "undo")) tNil)) tNil))) (tTup (tCons (tC (.str "no deed")) (tCons (tC .non) tNil)))))))))
theorem pure_Lplayed {K : PySem.W.Frag} {x y z : V} {H : Hp} {Q : VK} {E : XK} (h : sp_Lplayed K [x, y, z] H Q E) : t_Lplayed K { nx := fun _ H' => Q .non H', rt := Q } [some x, some y, some z, none, none, none, none, none, none] H := by
  obtain ⟨x, y, z, e, cj, M, W, m, st0, day, a, ns, I0, n0, c0, rfl, d0, d1, rfl, ha, na, ln, q⟩ := h
  cases e
  unfold t_Lplayed
  walk_at "ss"
  rename_i D hD
  have kn := I0.known
  have nD : D ∉ M ++ W := fun z => by
    obtain ⟨o, e⟩ := kn D z
    rw [show H D = none from hD] at e
    cases e
  have dpt : D ≠ a := (ne_of_none ha hD).symm
  have v0 : PInv K M W x m st0 D H 0 (upd H D (.lst [])) M W [] st0 [] [] := ⟨kp_new hD (Kp.refl _ _), I0.same (same_new hD), ⟨fun _ _ _ h => h, fun _ _ _ h => h⟩, upd_same, nD, .nil, by simp, n0, by simp, by rw [c0]; exact Int.le_refl _, by simp, Nat.le_refl _, ⟨[], rfl⟩⟩
  generalize upd H D (.lst []) = G0 at v0 ⊢
  refine for_list (K := K) (a := a) (xs := ns.map V.int) (fun i σ H' => ∃ v4 v5 v6 v7 M1 W1 P st pa vs, σ = [some x, some (.int day), some (.ref a), some (.ref D), v4, v5, v6, v7, none] ∧ PInv K M W x m st0 D H i H' M1 W1 P st pa vs) ⟨_, _, _, _, M, W, [], st0, [], [], rfl, v0⟩ (fun i σ H' _ h => by obtain ⟨_, _, _, _, _, _, _, _, _, _, _, h⟩ := h; exact SqL.of (h.kp _ _ ha na)) ?_ ?_
  · clear v0
    rintro i v σ H1 hi ⟨v4, v5, v6, v7, M1, W1, P, st, pa, vs, rfl, I⟩
    have hil := (List.getElem?_eq_some_iff.mp hi).1
    rw [List.length_map] at hil
    obtain ⟨cell, rfl⟩ : ∃ c : Int, v = .int c := by
      obtain ⟨c, -, e⟩ := List.mem_map.mp (List.mem_of_getElem? hi)
      exact ⟨c, e.symm⟩
    walk_at "ss"
    refine g_Lseen cj I.inn I.nm fun va Pa H2 s2 fPa SA => ?_
    obtain ⟨p2, a1, a2, a3, a4, xs, ys, zs, rfl, h20, h21, R21, -⟩ := SA.it
    walk_at "ss"
    rename_i t H3 s3 ft T3
    have h30 := s3 _ _ h20
    have h31 := s3 _ _ h21
    walk_at "ss"
    have tl := I.inn.ok.len
    have lx := Paired.length R21
    refine lc_w (walk_list (K := K) (a := a1) (xs := xs)) (fun i => (st.tk[i]?).bind fun e => some (V.int e.no)) (by omega) (fun H' s => SqL.of (s _ _ h31)) ?_ ?_
    · rintro D2 j v H5 H6 N hD2 hj s5 ⟨rfl, hx⟩ hN2 -
      obtain ⟨e, he, w, sx, qx, us, rfl, b1, -⟩ := Paired.getL R21 hx
      have b5 := s5 _ _ (s3 _ _ b1)
      walk_at "ss"
      exact hN2 _ _ (by rw [he]; rfl) (Same.refl _)
    intro D2 H4 hD2 s4 h4
    rw [lx, range_flt st.tk (fun e => some (V.int e.no))] at h4
    have e4 : st.tk.filterMap (fun e => some (V.int e.no)) = (st.tk.map (·.no)).map V.int := by
      rw [List.filterMap_eq_map', List.map_map]
      rfl
    rw [e4] at h4
    have T4 := tape_same s4 T3
    walk_at "ss"
    refine g_Ldeed T4 d0 d1 (SqL.of h4) (ni_tape hD2 T3) (by rw [List.length_map]; omega) fun pd Pd d H5 T5 k5 fpd fPd hd od => ?_
    have S25 : Same H2 H5 := same_kp s3 (kp_tr k5 (Same.kp s4 _)) ft ft
    have S15 := s2.trans S25
    have SA5 := SA.mut (Same.kp S25 []) muts_nil fun _ _ => by simp
    clear SA R21 h31 h30 h21 h20 h4 T4 T3 e4 lx s4 s3 k5 hD2 ft
    walk_at "ss"
    rename_i pu hpu
    have S6 := S15.trans (same_new (o := .tup [.str "undo"]) hpu)
    have I6 := I.same S6 (Nat.le_refl _)
    have SA6 := SA5.mut (Same.kp (same_new (o := .tup [.str "undo"]) hpu) []) muts_nil fun _ _ => by simp
    have hd6 := hd.mut (Same.kp (same_new (o := .tup [.str "undo"]) hpu) []) muts_nil fun _ _ => by simp
    have kPa : ∀ y ∈ Pa, Fr H1 y ∧ ∃ o, (upd H5 pu (.tup [.str "undo"])) y = some o := fun y hy => let ⟨a, o, b⟩ := fPa y hy; ⟨a, o, at_new hpu (S25 _ _ b)⟩
    refine g_neUndo hd6 od upd_same ?_
    clear hd hpu SA5 S15 S25 T5 s2 fPa
    generalize upd H5 pu (.tup [.str "undo"]) = G at I6 SA6 hd6 kPa S6 ⊢
    have lpa := I6.len
    have cok := I6.co
    have nPa : ∀ y ∈ Pa, y ∉ M1 ∧ y ≠ D ∧ ∃ o, G y = some o := fun y hy => by
      obtain ⟨f, o, e⟩ := kPa y hy
      refine ⟨fun z => ?_, fun z => ?_, o, e⟩
      · obtain ⟨o', e'⟩ := I.inn.known y (List.mem_append_left _ z)
        rw [show H1 y = none from f] at e'
        cases e'
      · have := I.here
        rw [show H1 D = none from z ▸ f] at this
        cases this
    cases eu : isUndo d with
    | false =>
      walk_at "ss"
      refine g_Ldone cj I6.inn (by omega) hd6 (od.dd (by omega)) ⟨fun e t' H7 s7 r7 => ?_, fun st' pa' e t' H7 M7 W7 k7 J7 n7 r7 => ?_⟩
      · walk_at "ss"
        obtain ⟨tt, xx, rfl, htt, -⟩ := id r7
        have hw := step_bad (w := (stepF m st pa d).1) (Prod.ext rfl e)
        walk_at "ss"
        refine ite_f (decide_eq_false fun z => hw (V.str.inj z)) ?_
        walk_at "ss"
        refine g_Lseen cj (I6.inn.same s7) I6.nm fun vb Pb H8 s8 fPb SB => ?_
        walk_at "ss"
        refine g_neD_same (n := 6) SB.dp (SA6.mut (Same.kp (s7.trans s8) []) muts_nil fun _ _ => by simp).dp (sh_seen I6.inn.ok.sh) (by decide) ?_
        walk_at "ss"
        exact ⟨_, _, _, _, M1, W1, P, st, pa, vs, rfl, I6.same (s7.trans s8) (Nat.le_succ _)⟩
      · walk_at "ss"
        obtain ⟨tt, xx, rfl, htt, -⟩ := id r7
        obtain ⟨w1, rfl, nm7, co7⟩ := step_good (w := (stepF m st pa d).1) (Prod.ext rfl e) eu I6.nm I6.inn.ok.co0
        rw [w1] at htt
        obtain ⟨kp7, nw7, hD7, oD7, se7, ap7⟩ := I6.step k7 J7 n7
        have SA7 := SA6.mut k7 I6.inn.muts fun y hy => (nPa y hy).1
        walk_at "ss"
        have kk : Kp [D] H7 (upd H7 D (.lst (vs ++ [.ref p2]))) := kp_upd (by simp)
        have mu := muts_one hD7
        have ap : ∀ y ∈ P ++ Pa, y ∉ M7 ∧ y ≠ D ∧ ∃ o, H7 y = some o := fun y hy => by
          rcases List.mem_append.mp hy with hy | hy
          · exact ap7 y hy
          · obtain ⟨z1, z2, o, z3⟩ := nPa y hy
            refine ⟨fun z => (n7.1 y z).elim z1 fun f => ?_, z2, o, k7 _ _ z3 z1⟩
            rw [show G y = none from f] at z3
            cases z3
        obtain ⟨rb, hrb⟩ := I6.beg
        refine ite_t (by simp) ?_
        walk_at "ss"
        have lvs := Paired.length I6.seen
        refine ⟨D, vs, .ref p2, rfl, rfl, hD7, by rw [sizeLine_eq]; omega, ?_⟩
        refine ⟨_, _, _, _, M7, W7, P ++ Pa, st', pa ++ [st], vs ++ [.ref p2], rfl, kp_own hD kp7, J7.keep kk mu fun y hy z => oD7 (List.mem_singleton.mp z ▸ hy), nw7, upd_same, oD7, ?_, fun y hy => (by obtain ⟨z1, z2, o, z3⟩ := ap y hy; exact ⟨z1, z2, o, at_ne z2 z3⟩), nm7, fun u hu => ?_, by push_cast; omega, fun u hu => ?_, by rw [List.length_append]; show pa.length + 1 ≤ i + 1; omega, ⟨rb ++ [st'], by rw [hrb]; rfl⟩⟩
        · refine seens_mut kk mu (fun y hy z => (ap y hy).2.1 (List.mem_singleton.mp z)) (Paired.app (seens_wide (fun y hy => List.mem_append_left _ hy) se7) (.cons (SA7.wide fun y hy => List.mem_append_right _ hy) .nil))
        · rcases List.mem_append.mp hu with hu | hu
          · exact I6.nms u hu
          · rw [List.mem_singleton.mp hu]; exact I6.nm
        · rcases List.mem_append.mp hu with hu | hu
          · have := I6.cos u hu
            omega
          · rw [List.mem_singleton.mp hu]; omega
    | true =>
      walk_at "ss"
      rename_i pe hpe
      have I7 := I6.same (same_new (o := .lst []) hpe) (Nat.le_refl _)
      have hd7 := hd6.mut (Same.kp (same_new (o := .lst []) hpe) []) muts_nil fun _ _ => by simp
      refine g_neNil I7.here I7.seen I7.inn.oks upd_same ?_
      generalize upd G pe (.lst []) = G7 at I7 hd7 ⊢
      rcases snoc_cases pa with rfl | ⟨pa', st', rfl⟩
      · walk_at "ss"
        exact ⟨_, _, _, _, M1, W1, P, st, [], vs, rfl, I7.same (Same.refl _) (Nat.le_succ _)⟩
      · obtain ⟨vs', v', rfl, sv', sv⟩ := Paired.snocR I7.seen
        obtain rfl : d = .undo := by cases d <;> first | rfl | cases eu
        rw [List.append_ne_nil_of_right_ne_nil _ (by simp) |> decide_eq_false]
        walk_at "ss"
        refine g_Ldone cj I7.inn (by omega) hd7 trivial ⟨fun e t' H8 s8 r8 => (by rw [step_undo rfl] at e; cases e), fun st9 pa9 e t' H8 M8 W8 k8 J8 n8 r8 => ?_⟩
        rw [step_undo rfl] at e r8
        cases e
        walk_at "ss"
        rename_i p8 hp8
        refine g_neD_same (n := 2) (res_dp (res_same (same_new hp8) r8)) (.tup (SqT.of upd_same) (.cons (.str _) (.cons .non .nil))) (sh_wn (w := "ok") (by decide +kernel)) (by decide) ?_
        obtain ⟨kp8, nw8, hD8, oD8, se8, ap8⟩ := I7.step k8 J8 n8
        have nm8 := I7.nms st' (by simp)
        have s8 := same_new (o := .tup [V.str "ok", .non]) hp8
        generalize upd H8 p8 (.tup [V.str "ok", .non]) = G8 at s8 ⊢
        walk_at "ss"
        refine g_Lseen cj (J8.same s8) nm8 fun vb Pb H9 s9 fPb SB => ?_
        have s89 := s8.trans s9
        have hD9 := s89 _ _ hD8
        walk_at "ss"
        refine ⟨D, _, v', rfl, rfl, hD9, by simp, ?_⟩
        rw [List.dropLast_concat]
        have kk : Kp [D] H9 (upd H9 D (.lst vs')) := kp_upd (by simp)
        have mu := muts_one hD9
        have nPb : ∀ y ∈ Pb, y ∉ [D] := fun y hy z => by
          have f := (fPb y hy).1
          rw [List.mem_singleton.mp z, show Fr _ D ↔ _ = none from Iff.rfl, s8 _ _ hD8] at f
          cases f
        have nP : ∀ y ∈ P, y ∉ [D] := fun y hy z => (ap8 y hy).2.1 (List.mem_singleton.mp z)
        have e69 : Paired (fun v u => SeenAt H9 P v m u) (vs' ++ [v']) (pa' ++ [st']) := seens_mut (Same.kp s89 []) muts_nil (fun _ _ => by simp) se8
        obtain ⟨us, u, eu9, se9, su9⟩ := Paired.snocR e69
        obtain ⟨rfl, e9⟩ := List.append_inj' eu9 rfl
        cases e9
        refine g_neD_same (n := 6) (SB.mut kk mu nPb).dp (su9.mut kk mu nP).dp (sh_seen J8.ok.sh) (by decide) ?_
        walk_at "ss"
        obtain ⟨rb, hrb⟩ := I7.beg
        obtain ⟨rb', hrb'⟩ := beg_pop hrb (by simp)
        have l7 := I7.len
        rw [List.length_append] at l7
        have l7' : pa'.length + 1 ≤ i := l7
        have c7 := I7.cos st' (by simp)
        exact ⟨_, _, _, _, M8, W8, P, st', pa', vs', rfl, kp_own hD (kp8.trans (Same.kp s89 M)), (J8.same s89).keep kk mu fun y hy z => oD8 (List.mem_singleton.mp z ▸ hy), nw8, upd_same, oD8, seens_mut kk mu nP se9, fun y hy => (by obtain ⟨z1, z2, o, z3⟩ := ap8 y hy; exact ⟨z1, z2, o, at_ne z2 (s89 _ _ z3)⟩), nm8, fun u hu => I7.nms u (List.mem_append_left _ hu), by push_cast; omega, fun u hu => (by have := I7.cos u (List.mem_append_left _ hu); push_cast; omega), by omega, ⟨rb', hrb'⟩⟩
  · rintro σ H1 ⟨v4, v5, v6, v7, M1, W1, P, st, pa, vs, rfl, I⟩
    walk_at "ss"
    obtain ⟨n7, hn7⟩ : ∃ n7, n7 = (ns.map V.int).length := ⟨_, rfl⟩
    have ln7 : n7 ≤ 7 := by rw [hn7, List.length_map]; exact ln
    rw [← hn7] at I
    refine while_m (fun k σ H' => ∃ v4 v5 v6 v7 M1 W1 P st pa vs, σ = [some x, some (.int day), some (.ref a), some (.ref D), v4, v5, v6, v7, none] ∧ PInv K M W x m st0 D H n7 H' M1 W1 P st pa vs ∧ k = pa.length) ⟨_, _, _, _, M1, W1, P, st, pa, vs, rfl, I, rfl⟩ ?_ ?_
    · clear I
      rintro k σ G ⟨v4, v5, v6, v7, M1, W1, P, st, pa, vs, rfl, I, rfl⟩
      walk_at "ss"
      rename_i pe hpe
      have I7 := I.same (same_new (o := .lst []) hpe) (Nat.le_refl _)
      refine g_neNil I7.here I7.seen I7.inn.oks upd_same ?_
      generalize upd G pe (.lst []) = G7 at I7 ⊢
      have lpa := I7.len
      rcases snoc_cases pa with rfl | ⟨pa', st', rfl⟩
      · rw [decide_eq_true rfl]
        walk_at "ss"
        have I8 := I7.same (same_new (o := .tup [.str "undo"]) (by assumption)) (Nat.le_refl _)
        refine g_Ldone (P := []) cj I8.inn (by omega) (d := .undo) upd_same trivial ⟨fun e t' H8 s8 r8 => ?_, fun st9 pa9 e t' H8 M8 W8 k8 J8 n8 r8 => (by rw [step_undo_no rfl] at e; cases e)⟩
        rw [step_undo_no rfl] at r8
        walk_at "ss"
        rename_i u2 hu2
        refine g_eqD_same (n := 2) (res_dp (res_same (same_new hu2) r8)) (.tup (SqT.of upd_same) (.cons (.str _) (.cons .non .nil))) (sh_wn (w := "no deed") (by decide +kernel)) (by decide) ?_
        have I9 := I8.same (s8.trans (same_new (o := .tup [V.str "no deed", .non]) hu2)) (Nat.le_refl _)
        walk_at "ss"
        have IA := I9.same (same_new (o := .tup [.str "undo"]) (by assumption)) (Nat.le_refl _)
        refine g_Ldone (P := []) cj IA.inn (by omega) (d := .undo) upd_same trivial ⟨fun e t2 H10 s10 r10 => ?_, fun st9 pa9 e t' H8 M8 W8 k8 J8 n8 r8 => (by rw [step_undo_no rfl] at e; cases e)⟩
        rw [step_undo_no rfl] at r10
        walk_at "ss"
        rename_i u3 hu3
        refine g_eqD_same (n := 2) (res_dp (res_same (same_new hu3) r10)) (.tup (SqT.of upd_same) (.cons (.str _) (.cons .non .nil))) (sh_wn (w := "no deed") (by decide +kernel)) (by decide) ?_
        have IB := IA.same (s10.trans (same_new (o := .tup [V.str "no deed", .non]) hu3)) (Nat.le_refl _)
        obtain ⟨rb, hrb⟩ := IB.beg
        obtain rfl : st = st0 := by
          injection hrb
        exact q _ M1 W1 IB.kp IB.inn IB.nw
      · obtain ⟨vs', v', rfl, sv', sv⟩ := Paired.snocR I7.seen
        rw [List.append_ne_nil_of_right_ne_nil _ (by simp) |> decide_eq_false]
        walk_at "ss"
        replace I7 := I7.same (same_new (o := .tup [.str "undo"]) (by assumption)) (Nat.le_refl _)
        refine g_Ldone (P := []) cj I7.inn (by omega) (d := .undo) upd_same trivial ⟨fun e t' H8 s8 r8 => (by rw [step_undo rfl] at e; cases e), fun st9 pa9 e t' H8 M8 W8 k8 J8 n8 r8 => ?_⟩
        rw [step_undo rfl] at e r8
        cases e
        walk_at "ss"
        rename_i p8 hp8
        refine g_neD_same (n := 2) (res_dp (res_same (same_new hp8) r8)) (.tup (SqT.of upd_same) (.cons (.str _) (.cons .non .nil))) (sh_wn (w := "ok") (by decide +kernel)) (by decide) ?_
        obtain ⟨kp8, nw8, hD8, oD8, se8, ap8⟩ := I7.step k8 J8 n8
        have nm8 := I7.nms st' (by simp)
        have s8 := same_new (o := .tup [V.str "ok", .non]) hp8
        generalize upd H8 p8 (.tup [V.str "ok", .non]) = G8 at s8 ⊢
        walk_at "ss"
        refine g_Lseen cj (J8.same s8) nm8 fun vb Pb H9 s9 fPb SB => ?_
        have s89 := s8.trans s9
        have hD9 := s89 _ _ hD8
        walk_at "ss"
        refine ⟨D, _, v', rfl, rfl, hD9, by simp, ?_⟩
        rw [List.dropLast_concat]
        have kk : Kp [D] H9 (upd H9 D (.lst vs')) := kp_upd (by simp)
        have mu := muts_one hD9
        have nPb : ∀ y ∈ Pb, y ∉ [D] := fun y hy z => by
          have f := (fPb y hy).1
          rw [List.mem_singleton.mp z, show Fr _ D ↔ _ = none from Iff.rfl, s8 _ _ hD8] at f
          cases f
        have nP : ∀ y ∈ P, y ∉ [D] := fun y hy z => (ap8 y hy).2.1 (List.mem_singleton.mp z)
        have e69 : Paired (fun v u => SeenAt H9 P v m u) (vs' ++ [v']) (pa' ++ [st']) := seens_mut (Same.kp s89 []) muts_nil (fun _ _ => by simp) se8
        obtain ⟨us, u, eu9, se9, su9⟩ := Paired.snocR e69
        obtain ⟨rfl, e9⟩ := List.append_inj' eu9 rfl
        cases e9
        refine g_neD_same (n := 6) (SB.mut kk mu nPb).dp (su9.mut kk mu nP).dp (sh_seen J8.ok.sh) (by decide) ?_
        walk_at "ss"
        obtain ⟨rb, hrb⟩ := I7.beg
        obtain ⟨rb', hrb'⟩ := beg_pop hrb (by simp)
        have l7 := I7.len
        rw [List.length_append] at l7
        have l7' : pa'.length + 1 ≤ n7 := l7
        have c7 := I7.cos st' (by simp)
        exact ⟨pa'.length, by simp, _, _, _, _, M8, W8, P, st', pa', vs', rfl, ⟨kp_own hD (kp8.trans (Same.kp s89 M)), (J8.same s89).keep kk mu fun y hy z => oD8 (List.mem_singleton.mp z ▸ hy), nw8, upd_same, oD8, seens_mut kk mu nP se9, fun y hy => (by obtain ⟨z1, z2, o, z3⟩ := ap8 y hy; exact ⟨z1, z2, o, at_ne z2 (s89 _ _ z3)⟩), nm8, fun u hu => I7.nms u (List.mem_append_left _ hu), by omega, fun u hu => I7.cos u (List.mem_append_left _ hu), by omega, ⟨rb', hrb'⟩⟩, rfl⟩
    · intro σ H Q Q' h q
      obtain ⟨v, hv, q1, q2⟩ := q
      refine ⟨v, hv, q1, fun p hp => ?_⟩
      obtain ⟨d1, d2, a, b, c, d, k, e, r⟩ := q2 p hp
      exact ⟨d1, d2, a, b, c, d, k, e, h _ _ r⟩
def t_law (K : PySem.W.Frag) : TS :=
  (tSeq (tAsg (tCall (sp_Lbegin K) [] E0 (tCons (tCall (sp_Lcell_at K) [] E0 (tCons (tVar 0) (tCons (tC (.int 0)) tNil))) tNil)) (gName 1))
  (tSeq (tAsg (tCall (sp_Lday K) [] E0 (tCons (tVar 1) tNil)) (gName 2))
  (tSeq (tAsg (tLst (tCons (tTup (tCons (tC (.str "main")) (tCons (tCall (sp_Lfew K) [] E0 (tCons (tVar 1) (tCons (tVar 2) (tCons (tC (.int 3)) tNil)))) tNil))) (tCons (tTup (tCons (tC (.str "late")) (tCons (tCall (sp_Lfew K) [] E0 (tCons (tVar 1) (tCons (tVar 2) (tCons (tC (.int 2)) tNil)))) tNil))) tNil))) (gName 3))
  (tSeq (tAsg (tMake (He.ga K "Inn") (sp_Inn_init K) [] E0 (tCons (tOp rAdd (tC (.int 1)) (tCall (sp_Ltake K) [] E0 (tCons (tVar 1) (tCons (tC (.int 2)) tNil)))) (tCons (tVar 3) tNil))) (gName 4))
  (tSeq (tAsg (tCall (sp_Lseen K) [] E0 (tCons (tVar 4) tNil)) (gName 5))
  (tSeq (tAsg (tSl (rSlL K) (tVar 0) (tPart (tC (.int 1))) (tPart (tC (.int 8)))) (gName 6))
  (tSeq (tFor (iList K (tLst (tCons (tVar 6) (tCons (tRevS K (tVar 6) (tPart (tUn rNeg (tC (.int 1))))) (tCons (tSl (rSlL K) (tVar 6) tNoPart (tPart (tC (.int 3)))) tNil))))) (gName 7)
  (tIfS (tOr (tNot (tB (tCall (sp_Lplayed K) [] E0 (tCons (tVar 4) (tCons (tVar 2) (tCons (tVar 7) tNil)))))) (tTest (tOp (rNeD K) (tCall (sp_Lseen K) [] E0 (tCons (tVar 4) tNil)) (tVar 5))))
  (tRet (tC (.bl false)))
  tNext))
  (tSeq (tAsg (tCall (sp_Lstay K) [] E0 (tCons (tVar 1) (tCons (tVar 2) tNil))) (gName 8))
  (tSeq (tAsg (tCall (sp_Ldone K) [] E0 (tCons (tVar 4) (tCons (tTup (tCons (tC (.str "take")) (tCons (tVar 8) tNil))) tNil))) (gName 9))
  (tRet (tOrV (tOp rEq (tOp (rIxT K) (tVar 9) (tC (.int 0))) (tC (.str "off"))) (tOp (rEqD K) (tVar 9) (tTup (tCons (tC (.str "ok")) (tCons (tC (.int 0)) tNil)))))))))))))))
theorem pure_law {K : PySem.W.Frag} {x : V} {H : Hp} {Q : VK} {E : XK} (h : sp_law K [x] H Q E) : t_law K { nx := fun _ H' => Q .non H', rt := Q } [some x, none, none, none, none, none, none, none, none, none] H := by
  obtain ⟨x, e, cf, cb, ce, cn, co, cm, c1, c2, c3, ci, cl, a, ns, rfl, hS, hl, q⟩ := h
  cases e
  have cj : CJd K := ⟨ci, cl, cf, cb, ce, cn, co, cm, c1, c2, c3⟩
  unfold t_law
  walk_at "ss"
  refine g_cell_at (i := 0) hS fun c0 => ?_
  walk_at "ss"
  rename_i t H1 s1 ft T1
  refine g_Lday T1 fun day H2 T2 k2 d0 d1 => ?_
  walk_at "ss"
  refine g_Lfew T2 d0 (by omega) (by omega) (by omega) fun p3 xs3 rs3 H3 T3 k3 f3 h3 R3 l3 g3 => ?_
  walk_at "ss"
  rename_i w1 hw1
  have T3b := tape_new (o := .tup [.str "main", .ref p3]) hw1 T3
  refine g_Lfew T3b d0 (by omega) (by omega) (by omega) fun p4 xs4 rs4 H4 T4 k4 f4 h4 R4 l4 g4 => ?_
  walk_at "ss"
  rename_i w2 hw2 w3 hw3 v5 H5 v50 v51 T5 k5
  have T4b := tape_new (o := .lst [.ref w1, .ref w2]) hw3 (tape_new (o := .tup [.str "late", .ref p4]) hw2 T4)
  have tk4 := tk_kp T3b k4
  have tk5 := tk_kp T4b k5
  have n3 : p3 ∉ [t, t] := ni_tape f3 T2
  have n4 : p4 ∉ [t, t] := ni_tape f4 T3b
  have P0 : Paired (NrAt H5) [.ref w1, .ref w2] [("main", rs3), ("late", rs4)] := by
    have R3' := ((((ru_new (o := .tup [.str "main", .ref p3]) hw1 R3).tk tk4).tk (tk_new (o := .tup [.str "late", .ref p4]) hw2)).tk (tk_new (o := .lst [.ref w1, .ref w2]) hw3)).tk tk5
    have R4' := ((R4.tk (tk_new (o := .tup [.str "late", .ref p4]) hw2)).tk (tk_new (o := .lst [.ref w1, .ref w2]) hw3)).tk tk5
    exact .cons ⟨w1, p3, xs3, rfl, tk5 _ _ (at_new hw3 (at_new hw2 (tk4 _ _ upd_same))), k5 _ _ (at_new hw3 (at_new hw2 (k4 _ _ (at_new hw1 h3) n3))) n3, R3'⟩ (.cons ⟨w2, p4, xs4, rfl, tk5 _ _ (at_new hw3 upd_same), k5 _ _ (at_new hw3 (at_new hw2 h4)) n4, R4'⟩ .nil)
  have ok0 : ShOk [("main", rs3), ("late", rs4)] := by
    refine ⟨by show ((["main", "late"] : List Str)).Nodup; decide, fun e he => ?_, fun e he => ?_, by show 2 ≤ 10; decide⟩
    · simp at he
      rcases he with rfl | rfl
      · have : rs3.length ≤ 4 := l3
        show rs3.length ≤ 24
        omega
      · have : rs4.length ≤ 3 := l4
        show rs4.length ≤ 24
        omega
    · simp at he
      rcases he with rfl | rfl
      · exact g3
      · exact g4
  have nw3 : w3 ∉ [t, t] := ni_tape hw3 (tape_new (o := .tup [.str "late", .ref p4]) hw2 T4)
  have h53 := k5 _ _ upd_same nw3
  refine g_mkInn ci cf cb h53 P0 ok0 fun inn H6 M W s6 I6 f6 => ?_
  have nm0 : NamesOk (Ist0 [("main", rs3), ("late", rs4)]) := by
    have e : decide (("main" : Str) = "late") = false := by decide
    constructor <;> simp [lookS, List.find?, e]
  have T6 := tape_same s6 T5
  have ntM : t ∉ M ++ W := fun z => by
    obtain ⟨_, h⟩ := (tape_lst T5).1
    have := f6 t z
    rw [show H5 t = none from this] at h
    cases h
  have S6 : Same H H6 := (same_kp s1 (k2.trans (kp_tr k5 (kp_new hw3 (kp_new hw2 (kp_tr k4 (kp_new hw1 k3)))))) ft ft).trans s6
  obtain ⟨st0, est⟩ : ∃ st0, st0 = Ist0 [("main", rs3), ("late", rs4)] := ⟨_, rfl⟩
  have co0 : st0.co = 0 := by rw [est]
  rw [← est] at I6 nm0
  clear P0 ok0 est f6 s6 h53 nw3 tk4 tk5 n3 n4 T5 T4b T4 T3b T3 T2 T1 hw1 hw2 hw3 k2 k3 k4 k5 h3 h4 R3 R4 s1 ft f3 f4
  walk_at "ss"
  refine g_Lseen cj I6 nm0 fun va Pa H7 s7 fPa SA => ?_
  have hS7 := Same.seq (S6.trans s7) hS
  walk_at "ss"
  rename_i pc hpc pr hpr pt hpt pl hpl
  obtain ⟨cs, ecs⟩ : ∃ cs : List Int, cs = (ns.take 8).drop 1 := ⟨_, rfl⟩
  have e8 : List.drop (Int.toNat 1) (List.take (Int.toNat 8) (ns.map V.int)) = cs.map V.int := by rw [ecs, List.map_drop, List.map_take]; rfl
  have lcs : cs.length ≤ 7 := by rw [ecs, List.length_drop, List.length_take]; omega
  rw [e8] at hpr hpt hpl ⊢
  rw [← List.map_reverse] at hpt hpl ⊢
  rw [← List.map_take] at hpl ⊢
  obtain ⟨G, eG⟩ : ∃ G, G = upd (upd (upd (upd H7 pc (.lst (cs.map V.int))) pr (.lst (cs.reverse.map V.int))) pt (.lst ((cs.take (Int.toNat 3)).map V.int))) pl (.lst [.ref pc, .ref pr, .ref pt]) := ⟨_, rfl⟩
  have s7G : Same H7 G := by rw [eG]; exact (same_new hpc).trans ((same_new hpr).trans ((same_new hpt).trans (same_new hpl)))
  have gl : G pl = some (.lst [.ref pc, .ref pr, .ref pt]) := by rw [eG]; exact upd_same
  have gc : G pc = some (.lst (cs.map V.int)) := by rw [eG]; exact at_new hpl (at_new hpt (at_new hpr upd_same))
  have gr : G pr = some (.lst (cs.reverse.map V.int)) := by rw [eG]; exact at_new hpl (at_new hpt upd_same)
  have gt : G pt = some (.lst ((cs.take (Int.toNat 3)).map V.int)) := by rw [eG]; exact at_new hpl upd_same
  have fc : Fr H7 pc := hpc
  have fr' : Fr H7 pr := Same.free (same_new hpc) hpr
  have ft' : Fr H7 pt := Same.free ((same_new hpc).trans (same_new hpr)) hpt
  have fl : Fr H7 pl := Same.free ((same_new hpc).trans ((same_new hpr).trans (same_new hpt))) hpl
  rw [← eG]
  clear eG hpc hpr hpt hpl
  have s6G := s7.trans s7G
  have IG := I6.same s6G
  have nk : ∀ {y : Addr}, Fr H7 y → y ∉ M ++ W := fun {y} f z => by
    obtain ⟨o, e⟩ := (I6.same s7).known y z
    rw [show H7 y = none from f] at e
    cases e
  have nPa : ∀ y ∈ Pa, y ∉ M := fun y hy z => by
    obtain ⟨o, e⟩ := I6.known y (List.mem_append_left _ z)
    rw [show H6 y = none from (fPa y hy).1] at e
    cases e
  have SAG := SA.mut (Same.kp s7G []) muts_nil fun _ _ => by simp
  have TG := tape_same s6G T6
  have LS : ∀ p, (p = pc ∨ p = pr ∨ p = pt) → ∃ ms : List Int, G p = some (.lst (ms.map V.int)) ∧ ms.length ≤ 7 ∧ p ∉ M := fun p hp => by
    rcases hp with rfl | rfl | rfl
    · exact ⟨_, gc, lcs, fun z => nk fc (List.mem_append_left _ z)⟩
    · exact ⟨_, gr, by rw [List.length_reverse]; exact lcs, fun z => nk fr' (List.mem_append_left _ z)⟩
    · exact ⟨_, gt, by rw [List.length_take]; omega, fun z => nk ft' (List.mem_append_left _ z)⟩
  have nlM : pl ∉ M := fun z => nk fl (List.mem_append_left _ z)
  clear SA hS hS7 S6 s7 s7G s6G fc fr' ft' fl gc gr gt T6 I6 fPa e8 ecs
  refine for_list (K := K) (a := pl) (xs := [.ref pc, .ref pr, .ref pt]) (fun i σ H' => ∃ v7 M' W', σ = [some (.ref a), some (.ref t), some (.int day), some (.ref w3), some inn, some va, some (.ref pc), v7, none, none] ∧ Kp M G H' ∧ NwA M W M' W' G ∧ IsAt K H' M' W' inn (1 + v5) st0 []) ⟨_, M, W, rfl, Kp.refl _ _, ⟨fun _ _ _ h => h, fun _ _ _ h => h⟩, IG⟩ (fun i σ H' _ h => by obtain ⟨_, _, _, _, h, _⟩ := h; exact SqL.of (h _ _ gl nlM)) ?_ ?_
  · rintro i v σ H8 hi ⟨v7, M', W', rfl, k8, nw8, I8⟩
    obtain ⟨p, rfl, hp⟩ : ∃ p, v = .ref p ∧ (p = pc ∨ p = pr ∨ p = pt) := by
      have := List.mem_of_getElem? hi
      simp only [List.mem_cons, List.not_mem_nil, or_false] at this
      rcases this with rfl | rfl | rfl
      · exact ⟨_, rfl, .inl rfl⟩
      · exact ⟨_, rfl, .inr (.inl rfl)⟩
      · exact ⟨_, rfl, .inr (.inr rfl)⟩
    obtain ⟨ms, gp, lm, np⟩ := LS p hp
    walk_at "ss"
    refine g_Lplayed cj I8 nm0 co0 d0 d1 (k8 _ _ gp np) (nw8.1 _ _ gp np) lm fun H9 M9 W9 k9 I9 nw9 => ?_
    have kk := kpA_trans nw8 k8 k9
    have nn := nwA_trans (K := K) nw8 nw9 k8
    walk_at "ss"
    refine g_Lseen cj I9 nm0 fun vb Pb H10 s10 _ SB => ?_
    walk_at "ss"
    refine g_neD_same (n := 6) SB.dp (SAG.mut (kk.trans (Same.kp s10 M)) IG.muts nPa).dp (sh_seen IG.ok.sh) (by decide) ?_
    walk_at "ss"
    exact ⟨_, M9, W9, rfl, kk.trans (Same.kp s10 M), nn, I9.same s10⟩
  · rintro σ H8 ⟨v7, M', W', rfl, k8, nw8, I8⟩
    have T8 : Tape H8 t t t := by
      obtain ⟨_, _, b, c, h, z⟩ := TG
      exact ⟨rfl, rfl, b, c, k8 _ _ h fun z => ntM (List.mem_append_left _ z), z⟩
    have nt8 : t ∉ M' ++ W' := by
      obtain ⟨_, h⟩ := (tape_lst TG).1
      exact nw8.2 t _ h ntM
    walk_at "ss"
    refine g_Lstay2 T8 d0 fun ps c g H9 T9 k9 f9 h9 sb => ?_
    have I9 := I8.keep k9 (muts_tape T8) fun y hy z => nt8 (by simp at z; rw [← z]; exact hy)
    walk_at "ss"
    rename_i pd hpd
    have IA := I9.same (same_new (o := .tup [.str "take", .ref ps]) hpd)
    refine g_Ldone (P := []) cj IA (by simp) (d := .take c g) ⟨ps, upd_same, at_new hpd h9⟩ ⟨sb, by rw [co0]; decide⟩ ⟨fun e t' HA sA rA => ?_, fun st9 pa9 e t' HA MA WA kA JA nA rA => ?_⟩
    · have o : offB (nowB (1 + v5) st0) c g = true := by
        cases o : offB (nowB (1 + v5) st0) c g with
        | true => rfl
        | false => rw [step_take o] at e; cases e
      rw [step_off o] at rA
      obtain ⟨tt, xx, rfl, htt, -⟩ := id rA
      dsimp only at htt
      walk_at "ss"
      refine ite_t (by simp) ?_
      exact q _
    · have o : offB (nowB (1 + v5) st0) c g = false := by
        cases o : offB (nowB (1 + v5) st0) c g with
        | false => rfl
        | true => rw [step_off o] at e; cases e
      rw [step_take o] at rA
      obtain ⟨tt, xx, rfl, htt, -⟩ := id rA
      dsimp only at htt
      walk_at "ss"
      refine ite_f (by decide) ?_
      walk_at "ss"
      rename_i pe hpe
      have dA := res_dp (K := K) (res_same (same_new (o := .tup [V.str "ok", .int 0]) hpe) rA)
      dsimp only at dA
      rw [co0] at dA
      refine g_eqD_same (n := 2) dA (.tup (SqT.of upd_same) (.cons (.str _) (.cons (.int _) .nil))) (sh_tup fun x hx => ?_) (by decide) (q _)
      simp only [List.mem_cons, List.not_mem_nil, or_false] at hx
      rcases hx with rfl | rfl
      · exact sh_str (by decide +kernel) _
      · exact sh_int _ _
open PySem PySem.Spec PyProof.Rows L2 YHd
/-- what the module's names hold -/
structure Txt (K : PySem.W.Frag) (mg : Str → Option Value) : Prop where
  b_ValueError : mg "ValueError" = none
  b_bool : mg "bool" = none
  b_dict : mg "dict" = none
  b_enumerate : mg "enumerate" = none
  b_int : mg "int" = none
  b_isinstance : mg "isinstance" = none
  b_len : mg "len" = none
  b_list : mg "list" = none
  b_max : mg "max" = none
  b_min : mg "min" = none
  b_range : mg "range" = none
  b_set : mg "set" = none
  b_sorted : mg "sorted" = none
  b_str : mg "str" = none
  b_sum : mg "sum" = none
  b_tuple : mg "tuple" = none
  c_LAST_DAY : ∃ u, mg "LAST_DAY" = some u ∧ RelV (.int 1000000) u
  c_MOST_COINS : ∃ u, mg "MOST_COINS" = some u ∧ RelV (.int 1000000000000) u
  c_MOST_NIGHTS : ∃ u, mg "MOST_NIGHTS" = some u ∧ RelV (.int 14) u
  c_MOST_RULES : ∃ u, mg "MOST_RULES" = some u ∧ RelV (.int 24) u
  c_WORDS : ∃ u, mg "WORDS" = some u ∧ RelV (.ref (He.ga K "WORDS")) u
  g_Book : mg "Book" = some (.ref (He.ga K "Book"))
  g_Come : mg "Come" = some (.ref (He.ga K "Come"))
  g_Deal : mg "Deal" = some (.ref (He.ga K "Deal"))
  g_Fee : mg "Fee" = some (.ref (He.ga K "Fee"))
  g_FullBook : mg "FullBook" = some (.ref (He.ga K "FullBook"))
  g_Go : mg "Go" = some (.ref (He.ga K "Go"))
  g_Inn : mg "Inn" = some (.ref (He.ga K "Inn"))
  g_Least : mg "Least" = some (.ref (He.ga K "Least"))
  g_Most : mg "Most" = some (.ref (He.ga K "Most"))
  g_NoDeed : mg "NoDeed" = some (.ref (He.ga K "NoDeed"))
  g_NoName : mg "NoName" = some (.ref (He.ga K "NoName"))
  g_NoRule : mg "NoRule" = some (.ref (He.ga K "NoRule"))
  g_NoTaken : mg "NoTaken" = some (.ref (He.ga K "NoTaken"))
  g_Off : mg "Off" = some (.ref (He.ga K "Off"))
  g_Price : mg "Price" = some (.ref (He.ga K "Price"))
  g_StayError : mg "StayError" = some (.ref (He.ga K "StayError"))
  g_TooMany : mg "TooMany" = some (.ref (He.ga K "TooMany"))
section
variable {P : Program} {w : World} {K : PySem.W.Frag} {mg : Str → Option Value} {base : Heap}
theorem sc_Lbegin : FnScope ["_law_cell"] ["_law_cell"] (defScope s_Lbegin) := ⟨rfl, rfl, rfl, by decide +kernel, rfl, by decide +kernel, by decide +kernel⟩
theorem sc_Lcell_at : FnScope ["_law_script", "_law_k"] ["_law_script", "_law_k"] (defScope s_Lcell_at) := ⟨rfl, rfl, rfl, by decide +kernel, rfl, by decide +kernel, by decide +kernel⟩
theorem sc_Ltake : FnScope ["_law_row", "_law_base", "_law_found", "_law_number"] ["_law_row", "_law_base"] (defScope s_Ltake) := ⟨rfl, rfl, rfl, by decide +kernel, rfl, by decide +kernel, by decide +kernel⟩
theorem sc_Lday : FnScope ["_law_row"] ["_law_row"] (defScope s_Lday) := ⟨rfl, rfl, rfl, by decide +kernel, rfl, by decide +kernel, by decide +kernel⟩
theorem sc_Lcoins : FnScope ["_law_row", "_law_few_here", "_law_many", "_law_great"] ["_law_row"] (defScope s_Lcoins) := ⟨rfl, rfl, rfl, by decide +kernel, rfl, by decide +kernel, by decide +kernel⟩
theorem sc_Lworth : FnScope ["_law_row", "_law_word", "_law_many", "_law_free", "_law_coins_here"] ["_law_row", "_law_word"] (defScope s_Lworth) := ⟨rfl, rfl, rfl, by decide +kernel, rfl, by decide +kernel, by decide +kernel⟩
theorem sc_Lrule : FnScope ["_law_row", "_law_day_here", "_law_word", "_law_ahead", "_law_first", "_law_last"] ["_law_row", "_law_day_here"] (defScope s_Lrule) := ⟨rfl, rfl, rfl, by decide +kernel, rfl, by decide +kernel, by decide +kernel⟩
theorem sc_Lfew : FnScope ["_law_row", "_law_day_here", "_law_most", "_law_rules", "_law_k"] ["_law_row", "_law_day_here", "_law_most"] (defScope s_Lfew) := ⟨rfl, rfl, rfl, by decide +kernel, rfl, by decide +kernel, by decide +kernel⟩
theorem sc_is_whole : FnScope ["thing"] ["thing"] (defScope s_is_whole) := ⟨rfl, rfl, rfl, by decide +kernel, rfl, by decide +kernel, by decide +kernel⟩
theorem sc_is_day : FnScope ["thing"] ["thing"] (defScope s_is_day) := ⟨rfl, rfl, rfl, by decide +kernel, rfl, by decide +kernel, by decide +kernel⟩
theorem sc_is_two_days : FnScope ["thing"] ["thing"] (defScope s_is_two_days) := ⟨rfl, rfl, rfl, by decide +kernel, rfl, by decide +kernel, by decide +kernel⟩
theorem sc_is_stretch : FnScope ["thing"] ["thing"] (defScope s_is_stretch) := ⟨rfl, rfl, rfl, by decide +kernel, rfl, by decide +kernel, by decide +kernel⟩
theorem sc_Rule_init : FnScope ["self", "first", "last", "worth"] ["self", "first", "last", "worth"] (defScope s_Rule_init) := ⟨rfl, rfl, rfl, by decide +kernel, rfl, by decide +kernel, by decide +kernel⟩
theorem sc_made : FnScope ["word", "first", "last", "worth"] ["word", "first", "last", "worth"] (defScope s_made) := ⟨rfl, rfl, rfl, by decide +kernel, rfl, by decide +kernel, by decide +kernel⟩
theorem sc_is_coins : FnScope ["thing"] ["thing"] (defScope s_is_coins) := ⟨rfl, rfl, rfl, by decide +kernel, rfl, by decide +kernel, by decide +kernel⟩
theorem sc_Price_fits : FnScope ["self"] ["self"] (defScope s_Price_fits) := ⟨rfl, rfl, rfl, by decide +kernel, rfl, by decide +kernel, by decide +kernel⟩
theorem sc_Come_fits : FnScope ["self"] ["self"] (defScope s_Come_fits) := ⟨rfl, rfl, rfl, by decide +kernel, rfl, by decide +kernel, by decide +kernel⟩
theorem sc_Go_fits : FnScope ["self"] ["self"] (defScope s_Go_fits) := ⟨rfl, rfl, rfl, by decide +kernel, rfl, by decide +kernel, by decide +kernel⟩
theorem sc_is_nights : FnScope ["thing"] ["thing"] (defScope s_is_nights) := ⟨rfl, rfl, rfl, by decide +kernel, rfl, by decide +kernel, by decide +kernel⟩
theorem sc_Least_fits : FnScope ["self"] ["self"] (defScope s_Least_fits) := ⟨rfl, rfl, rfl, by decide +kernel, rfl, by decide +kernel, by decide +kernel⟩
theorem sc_Most_fits : FnScope ["self"] ["self"] (defScope s_Most_fits) := ⟨rfl, rfl, rfl, by decide +kernel, rfl, by decide +kernel, by decide +kernel⟩
theorem sc_Deal_fits : FnScope ["self", "many", "free"] ["self"] (defScope s_Deal_fits) := ⟨rfl, rfl, rfl, by decide +kernel, rfl, by decide +kernel, by decide +kernel⟩
theorem sc_Fee_fits : FnScope ["self"] ["self"] (defScope s_Fee_fits) := ⟨rfl, rfl, rfl, by decide +kernel, rfl, by decide +kernel, by decide +kernel⟩
theorem sc_rule_of : FnScope ["thing", "rule"] ["thing"] (defScope s_rule_of) := ⟨rfl, rfl, rfl, by decide +kernel, rfl, by decide +kernel, by decide +kernel⟩
theorem sc_Price_word : FnScope ["self"] ["self"] (defScope s_Price_word) := ⟨rfl, rfl, rfl, by decide +kernel, rfl, by decide +kernel, by decide +kernel⟩
theorem sc_Come_word : FnScope ["self"] ["self"] (defScope s_Come_word) := ⟨rfl, rfl, rfl, by decide +kernel, rfl, by decide +kernel, by decide +kernel⟩
theorem sc_Go_word : FnScope ["self"] ["self"] (defScope s_Go_word) := ⟨rfl, rfl, rfl, by decide +kernel, rfl, by decide +kernel, by decide +kernel⟩
theorem sc_Least_word : FnScope ["self"] ["self"] (defScope s_Least_word) := ⟨rfl, rfl, rfl, by decide +kernel, rfl, by decide +kernel, by decide +kernel⟩
theorem sc_Most_word : FnScope ["self"] ["self"] (defScope s_Most_word) := ⟨rfl, rfl, rfl, by decide +kernel, rfl, by decide +kernel, by decide +kernel⟩
theorem sc_Deal_word : FnScope ["self"] ["self"] (defScope s_Deal_word) := ⟨rfl, rfl, rfl, by decide +kernel, rfl, by decide +kernel, by decide +kernel⟩
theorem sc_Fee_word : FnScope ["self"] ["self"] (defScope s_Fee_word) := ⟨rfl, rfl, rfl, by decide +kernel, rfl, by decide +kernel, by decide +kernel⟩
theorem sc_Book_init : FnScope ["self", "rules", "things", "number", "thing", "rule"] ["self", "rules"] (defScope s_Book_init) := ⟨rfl, rfl, rfl, by decide +kernel, rfl, by decide +kernel, by decide +kernel⟩
theorem sc_Inn_init : FnScope ["self", "rooms", "books", "name", "rules"] ["self", "rooms", "books"] (defScope s_Inn_init) := ⟨rfl, rfl, rfl, by decide +kernel, rfl, by decide +kernel, by decide +kernel⟩
theorem sc_Inn_need_name : FnScope ["self", "name"] ["self", "name"] (defScope s_Inn_need_name) := ⟨rfl, rfl, rfl, by decide +kernel, rfl, by decide +kernel, by decide +kernel⟩
theorem sc_Rule_told : FnScope ["self"] ["self"] (defScope s_Rule_told) := ⟨rfl, rfl, rfl, by decide +kernel, rfl, by decide +kernel, by decide +kernel⟩
theorem sc_Book_rules : FnScope ["self", "rule"] ["self"] (defScope s_Book_rules) := ⟨rfl, rfl, rfl, by decide +kernel, rfl, by decide +kernel, by decide +kernel⟩
theorem sc_Inn_rules_of : FnScope ["self", "name"] ["self", "name"] (defScope s_Inn_rules_of) := ⟨rfl, rfl, rfl, by decide +kernel, rfl, by decide +kernel, by decide +kernel⟩
theorem sc_nights_of : FnScope ["stay"] ["stay"] (defScope s_nights_of) := ⟨rfl, rfl, rfl, by decide +kernel, rfl, by decide +kernel, by decide +kernel⟩
theorem sc_Inn_full : FnScope ["self", "stays", "stay", "coins", "cut", "night", "many"] ["self"] (defScope s_Inn_full) := ⟨rfl, rfl, rfl, by decide +kernel, rfl, by decide +kernel, by decide +kernel⟩
theorem sc_Inn_standing : FnScope ["self", "number", "stay", "coins", "cut"] ["self"] (defScope s_Inn_standing) := ⟨rfl, rfl, rfl, by decide +kernel, rfl, by decide +kernel, by decide +kernel⟩
theorem sc_Lseen : FnScope ["_law_inn"] ["_law_inn"] (defScope s_Lseen) := ⟨rfl, rfl, rfl, by decide +kernel, rfl, by decide +kernel, by decide +kernel⟩
theorem sc_Lstay : FnScope ["_law_row", "_law_day_here", "_law_come", "_law_nights"] ["_law_row", "_law_day_here"] (defScope s_Lstay) := ⟨rfl, rfl, rfl, by decide +kernel, rfl, by decide +kernel, by decide +kernel⟩
theorem sc_Ldeed : FnScope ["_law_row", "_law_day_here", "_law_rules", "_law_taken", "_law_way", "_law_name", "_law_numbers", "_law_many", "_law_some", "_law_bad", "_law_k"] ["_law_row", "_law_day_here", "_law_rules", "_law_taken"] (defScope s_Ldeed) := ⟨rfl, rfl, rfl, by decide +kernel, rfl, by decide +kernel, by decide +kernel⟩
theorem sc_Rule_tells : FnScope ["self", "day"] ["self", "day"] (defScope s_Rule_tells) := ⟨rfl, rfl, rfl, by decide +kernel, rfl, by decide +kernel, by decide +kernel⟩
theorem sc_usual : FnScope ["word"] ["word"] (defScope s_usual) := ⟨rfl, rfl, rfl, by decide +kernel, rfl, by decide +kernel, by decide +kernel⟩
theorem sc_Book_tells_of : FnScope ["self", "word", "day", "rule"] ["self", "word", "day"] (defScope s_Book_tells_of) := ⟨rfl, rfl, rfl, by decide +kernel, rfl, by decide +kernel, by decide +kernel⟩
theorem sc_FullBook_tells_of : FnScope ["self", "word", "day"] ["self", "word", "day"] (defScope s_FullBook_tells_of) := ⟨rfl, rfl, rfl, by decide +kernel, rfl, by decide +kernel, by decide +kernel⟩
theorem sc_can_be_had : FnScope ["book", "stay", "come", "go", "night"] ["book", "stay"] (defScope s_can_be_had) := ⟨rfl, rfl, rfl, by decide +kernel, rfl, by decide +kernel, by decide +kernel⟩
theorem sc_marked : FnScope ["prices", "deal", "price", "found", "many", "free", "begin", "bundle", "back", "at"] ["prices", "deal"] (defScope s_marked) := ⟨rfl, rfl, rfl, by decide +kernel, rfl, by decide +kernel, by decide +kernel⟩
theorem sc_bill : FnScope ["book", "stay", "nights", "prices", "marks", "fee", "rows", "night", "k", "coins", "free"] ["book", "stay"] (defScope s_bill) := ⟨rfl, rfl, rfl, by decide +kernel, rfl, by decide +kernel, by decide +kernel⟩
theorem sc_coins_of : FnScope ["book", "stay"] ["book", "stay"] (defScope s_coins_of) := ⟨rfl, rfl, rfl, by decide +kernel, rfl, by decide +kernel, by decide +kernel⟩
theorem sc_parts_from : FnScope ["books", "stay", "day", "found", "number", "book", "to", "coins"] ["books", "stay", "day"] (defScope s_parts_from) := ⟨rfl, rfl, rfl, by decide +kernel, rfl, by decide +kernel, by decide +kernel⟩
theorem sc_ways : FnScope ["books", "stay", "found", "day", "coins", "part", "told"] ["books", "stay"] (defScope s_ways) := ⟨rfl, rfl, rfl, by decide +kernel, rfl, by decide +kernel, by decide +kernel⟩
theorem sc_paper_by : FnScope ["found", "stay", "most", "heights", "day", "k", "coins", "part"] ["found", "stay"] (defScope s_paper_by) := ⟨rfl, rfl, rfl, by decide +kernel, rfl, by decide +kernel, by decide +kernel⟩
theorem sc_cut_by : FnScope ["found", "go", "parts", "part"] ["found", "go"] (defScope s_cut_by) := ⟨rfl, rfl, rfl, by decide +kernel, rfl, by decide +kernel, by decide +kernel⟩
theorem sc_best : FnScope ["books", "stay", "found"] ["books", "stay"] (defScope s_best) := ⟨rfl, rfl, rfl, by decide +kernel, rfl, by decide +kernel, by decide +kernel⟩
theorem sc_FullBook_init : FnScope ["self", "book", "nights"] ["self", "book", "nights"] (defScope s_FullBook_init) := ⟨rfl, rfl, rfl, by decide +kernel, rfl, by decide +kernel, by decide +kernel⟩
theorem sc_Inn_books_now : FnScope ["self", "nights", "book", "night"] ["self"] (defScope s_Inn_books_now) := ⟨rfl, rfl, rfl, by decide +kernel, rfl, by decide +kernel, by decide +kernel⟩
theorem sc_Inn_best : FnScope ["self", "stay"] ["self", "stay"] (defScope s_Inn_best) := ⟨rfl, rfl, rfl, by decide +kernel, rfl, by decide +kernel, by decide +kernel⟩
theorem sc_Off_init : FnScope ["self", "days"] ["self", "days"] (defScope s_Off_init) := ⟨rfl, rfl, rfl, by decide +kernel, rfl, by decide +kernel, by decide +kernel⟩
theorem sc_Inn_keep : FnScope ["self"] ["self"] (defScope s_Inn_keep) := ⟨rfl, rfl, rfl, by decide +kernel, rfl, by decide +kernel, by decide +kernel⟩
theorem sc_Inn_take : FnScope ["self", "stay", "found", "number"] ["self", "stay"] (defScope s_Inn_take) := ⟨rfl, rfl, rfl, by decide +kernel, rfl, by decide +kernel, by decide +kernel⟩
theorem sc_Inn_give_back : FnScope ["self", "number"] ["self", "number"] (defScope s_Inn_give_back) := ⟨rfl, rfl, rfl, by decide +kernel, rfl, by decide +kernel, by decide +kernel⟩
theorem sc_NoRule_init : FnScope ["self", "number"] ["self", "number"] (defScope s_NoRule_init) := ⟨rfl, rfl, rfl, by decide +kernel, rfl, by decide +kernel, by decide +kernel⟩
theorem sc_laid : FnScope ["elder", "newer"] ["elder", "newer"] (defScope s_laid) := ⟨rfl, rfl, rfl, by decide +kernel, rfl, by decide +kernel, by decide +kernel⟩
theorem sc_Inn_lay : FnScope ["self", "name", "rules", "book"] ["self", "name", "rules"] (defScope s_Inn_lay) := ⟨rfl, rfl, rfl, by decide +kernel, rfl, by decide +kernel, by decide +kernel⟩
theorem sc_bounds_of : FnScope ["books", "found", "book", "word", "first", "last", "worth"] ["books"] (defScope s_bounds_of) := ⟨rfl, rfl, rfl, by decide +kernel, rfl, by decide +kernel, by decide +kernel⟩
theorem sc_unlike : FnScope ["one", "other", "day", "days", "word"] ["one", "other"] (defScope s_unlike) := ⟨rfl, rfl, rfl, by decide +kernel, rfl, by decide +kernel, by decide +kernel⟩
theorem sc_tidied : FnScope ["book", "kept", "at", "fewer"] ["book"] (defScope s_tidied) := ⟨rfl, rfl, rfl, by decide +kernel, rfl, by decide +kernel, by decide +kernel⟩
theorem sc_Inn_tidy : FnScope ["self", "name", "book"] ["self", "name"] (defScope s_Inn_tidy) := ⟨rfl, rfl, rfl, by decide +kernel, rfl, by decide +kernel, by decide +kernel⟩
theorem sc_Inn_undo : FnScope ["self"] ["self"] (defScope s_Inn_undo) := ⟨rfl, rfl, rfl, by decide +kernel, rfl, by decide +kernel, by decide +kernel⟩
theorem sc_Ldone : FnScope ["_law_inn", "_law_deed_here", "e", "_law_kinds"] ["_law_inn", "_law_deed_here"] (defScope s_Ldone) := ⟨rfl, rfl, rfl, by decide +kernel, rfl, by decide +kernel, by decide +kernel⟩
theorem sc_Lplayed : FnScope ["_law_inn", "_law_day_here", "_law_cells", "_law_seen_here", "_law_cell", "_law_ahead", "_law_deed_here", "_law_told", "_law_row"] ["_law_inn", "_law_day_here", "_law_cells"] (defScope s_Lplayed) := ⟨rfl, rfl, rfl, by decide +kernel, rfl, by decide +kernel, by decide +kernel⟩
theorem sc_law : FnScope ["_law_script", "_law_row", "_law_day_here", "_law_books", "_law_inn", "_law_first", "_law_cells", "_law_some", "_law_stay_here", "_law_told"] ["_law_script"] (defScope s_law) := ⟨rfl, rfl, rfl, by decide +kernel, rfl, by decide +kernel, by decide +kernel⟩
theorem ok_Lbegin (T : Txt K mg) {f : Addr} {fd : FuncData} (F : FunD K "_law_begin" "_law_begin" (defArgs s_Lbegin) (defBody s_Lbegin) (defScope s_Lbegin) [] [] f fd)  : FnG P w K mg base CX0 1 f fd ["_law_cell"] (sp_Lbegin K) := by
  refine g_def F sc_Lbegin (fun vs H Q E h => ?_) (fun cdv A outer s H vs Q E hr h => ⟨t_Lbegin K, PSs.nox ?_, ?_⟩)
  · obtain ⟨_, rfl, _⟩ := h
    rfl
  · exact (pss_cons (ps_if (pt_cmpR op_ge (pv 0) (pe_op op_pow pe_int pe_int) (nomark _)) (pss_one (ps_ret (pe_lst (pa_cons (pe_op op_sub (pv 0) (pe_op op_pow pe_int pe_int)) (pa_cons pe_int pa_nil))))) pss_nil)
  (pss_one (ps_ret (pe_lst (pa_cons pe_int (pa_cons (pe_op op_add (pe_op op_mod (pv 0) pe_int) pe_int) pa_nil))))))
  · obtain ⟨_, rfl, _⟩ := id h
    exact pure_Lbegin h
theorem ok_Lcell_at (T : Txt K mg) {f : Addr} {fd : FuncData} (F : FunD K "_law_cell_at" "_law_cell_at" (defArgs s_Lcell_at) (defBody s_Lcell_at) (defScope s_Lcell_at) [] [] f fd)  : FnG P w K mg base CX0 1 f fd ["_law_script", "_law_k"] (sp_Lcell_at K) := by
  refine g_def F sc_Lcell_at (fun vs H Q E h => ?_) (fun cdv A outer s H vs Q E hr h => ⟨t_Lcell_at K, PSs.nox ?_, ?_⟩)
  · obtain ⟨_, _, rfl, _⟩ := h
    rfl
  · exact (pss_cons (ps_if (pt_cmpR op_lt (pv 1) (pe_callB call_len_seq (by rfl) T.b_len (by decide +kernel) (pa_cons (pv 0) pa_nil)) (nomark _)) (pss_one (ps_ret (pe_ix ix_list (pv 0) (pv 1) (fun _ _ => rfl)))) pss_nil)
  (pss_one (ps_ret pe_int)))
  · obtain ⟨_, _, rfl, _⟩ := id h
    exact pure_Lcell_at h
theorem ok_Ltake (T : Txt K mg) {f : Addr} {fd : FuncData} (F : FunD K "_law_take" "_law_take" (defArgs s_Ltake) (defBody s_Ltake) (defScope s_Ltake) [] [] f fd)  : FnG P w K mg base CX0 1 f fd ["_law_row", "_law_base"] (sp_Ltake K) := by
  refine g_def F sc_Ltake (fun vs H Q E h => ?_) (fun cdv A outer s H vs Q E hr h => ⟨t_Ltake K, PSs.nox ?_, ?_⟩)
  · obtain ⟨_, _, rfl, _⟩ := h
    rfl
  · exact (pss_cons (ps_if (pt_cmpR op_gt (pe_ix ix_list (pv 0) pe_int (fun _ _ => rfl)) pe_int (nomark _)) (pss_cons (ps_set (i := 2) sc_Ltake.nd rfl (Or.inl rfl) (pe_op op_mod (pe_ix ix_list (pv 0) pe_int (fun _ _ => rfl)) (pv 1)))
  (pss_cons (ps_asg (pe_op op_fdivW (pe_ix ix_list (pv 0) pe_int (fun _ _ => rfl)) (pv 1)) (pg_sub (pv 0) pe_int set_list))
  (pss_one (ps_ret (pv 2))))) pss_nil)
  (pss_cons (ps_asg (pe_op op_mod (pe_op op_add (pe_op op_mul (pe_ix ix_list (pv 0) pe_int (fun _ _ => rfl)) pe_int) pe_int) pe_int) (pg_sub (pv 0) pe_int set_list))
  (pss_cons (ps_set (i := 3) sc_Ltake.nd rfl (Or.inl rfl) (pe_op op_mod (pe_op op_add (pe_op op_add (pe_op op_mul (pe_ix ix_list (pv 0) pe_int (fun _ _ => rfl)) (pe_ix ix_list (pv 0) pe_int (fun _ _ => rfl))) (pe_op op_mul pe_int (pe_ix ix_list (pv 0) pe_int (fun _ _ => rfl)))) pe_int) pe_int))
  (pss_one (ps_ret (pe_op op_mod (pe_op op_fdivW (pv 3) pe_int) (pv 1)))))))
  · obtain ⟨_, _, rfl, _⟩ := id h
    exact pure_Ltake h
theorem ok_Lday (T : Txt K mg) {f : Addr} {fd : FuncData} (F : FunD K "_law_day" "_law_day" (defArgs s_Lday) (defBody s_Lday) (defScope s_Lday) [] [] f fd) (c_Ltake : Y.Cal P w K mg base CX0 1 "_law_take" (sp_Ltake K) []) : FnG P w K mg base CX0 2 f fd ["_law_row"] (sp_Lday K) := by
  refine g_def F sc_Lday (fun vs H Q E h => ?_) (fun cdv A outer s H vs Q E hr h => ⟨t_Lday K, PSs.nox ?_, ?_⟩)
  · obtain ⟨_, rfl, _⟩ := h
    rfl
  · exact (pss_one (ps_ret (pe_ix ix_list (pe_lst (pa_cons pe_int (pa_cons (Y.pe_c c_Ltake hr (by decide) rfl pass0 (pa_cons (pv 0) (pa_cons pe_int pa_nil))) (pa_cons pe_int (pa_cons (pe_op op_add pe_int (Y.pe_c c_Ltake hr (by decide) rfl pass0 (pa_cons (pv 0) (pa_cons pe_int pa_nil)))) (pa_cons (Y.pe_c c_Ltake hr (by decide) rfl pass0 (pa_cons (pv 0) (pa_cons pe_int pa_nil))) pa_nil)))))) (Y.pe_c c_Ltake hr (by decide) rfl pass0 (pa_cons (pv 0) (pa_cons pe_int pa_nil))) (fun _ _ => rfl))))
  · obtain ⟨_, rfl, _⟩ := id h
    exact pure_Lday h
theorem ok_Lcoins (T : Txt K mg) {f : Addr} {fd : FuncData} (F : FunD K "_law_coins" "_law_coins" (defArgs s_Lcoins) (defBody s_Lcoins) (defScope s_Lcoins) [] [] f fd) (c_Ltake : Y.Cal P w K mg base CX0 1 "_law_take" (sp_Ltake K) []) : FnG P w K mg base CX0 2 f fd ["_law_row"] (sp_Lcoins K) := by
  refine g_def F sc_Lcoins (fun vs H Q E h => ?_) (fun cdv A outer s H vs Q E hr h => ⟨t_Lcoins K, PSs.nox ?_, ?_⟩)
  · obtain ⟨_, rfl, _⟩ := h
    rfl
  · exact (pss_cons (ps_set (i := 1) sc_Lcoins.nd rfl (Or.inl rfl) (Y.pe_c c_Ltake hr (by decide) rfl pass0 (pa_cons (pv 0) (pa_cons pe_int pa_nil))))
  (pss_cons (ps_set (i := 2) sc_Lcoins.nd rfl (Or.inl rfl) (pe_op op_mul pe_int (Y.pe_c c_Ltake hr (by decide) rfl pass0 (pa_cons (pv 0) (pa_cons pe_int pa_nil)))))
  (pss_cons (ps_set (i := 3) sc_Lcoins.nd rfl (Or.inl rfl) (pe_op op_add (pe_op op_mul (Y.pe_c c_Ltake hr (by decide) rfl pass0 (pa_cons (pv 0) (pa_cons (pe_op op_pow pe_int pe_int) pa_nil))) (pe_op op_pow pe_int pe_int)) (Y.pe_c c_Ltake hr (by decide) rfl pass0 (pa_cons (pv 0) (pa_cons (pe_op op_pow pe_int pe_int) pa_nil)))))
  (pss_one (ps_ret (pe_ix ix_list (pe_lst (pa_cons (pv 1) (pa_cons (pv 2) (pa_cons (pe_op op_add (pv 1) (pe_op op_mul pe_int (pv 2))) (pa_cons (pv 3) (pa_cons (pe_op op_pow pe_int pe_int) pa_nil)))))) (pe_op op_fdivW (Y.pe_c c_Ltake hr (by decide) rfl pass0 (pa_cons (pv 0) (pa_cons pe_int pa_nil))) pe_int) (fun _ _ => rfl)))))))
  · obtain ⟨_, rfl, _⟩ := id h
    exact pure_Lcoins h
theorem ok_Lworth (T : Txt K mg) {f : Addr} {fd : FuncData} (F : FunD K "_law_worth" "_law_worth" (defArgs s_Lworth) (defBody s_Lworth) (defScope s_Lworth) [] [] f fd) (c_Ltake : Y.Cal P w K mg base CX0 1 "_law_take" (sp_Ltake K) []) (c_Lcoins : Y.Cal P w K mg base CX0 2 "_law_coins" (sp_Lcoins K) []) : FnG P w K mg base CX0 3 f fd ["_law_row", "_law_word"] (sp_Lworth K) := by
  refine g_def F sc_Lworth (fun vs H Q E h => ?_) (fun cdv A outer s H vs Q E hr h => ⟨t_Lworth K, PSs.nox ?_, ?_⟩)
  · obtain ⟨_, _, rfl, _⟩ := h
    rfl
  · exact (pss_cons (ps_if (pt_cmpR op_in_seq (pv 1) (pe_tup (pa_cons pe_str (pa_cons pe_str pa_nil))) (by rfl)) (pss_one (ps_ret (pe_cmpR op_eq (Y.pe_c c_Ltake hr (by decide) rfl pass0 (pa_cons (pv 0) (pa_cons pe_int pa_nil))) pe_int (nomark _)))) pss_nil)
  (pss_cons (ps_if (pt_cmpR op_in_seq (pv 1) (pe_tup (pa_cons pe_str (pa_cons pe_str pa_nil))) (by rfl)) (pss_one (ps_ret (pe_op op_add pe_int (Y.pe_c c_Ltake hr (by decide) rfl pass0 (pa_cons (pv 0) (pa_cons (pe_ix ix_list (pe_lst (pa_cons pe_int (pa_cons pe_int pa_nil))) (Y.pe_c c_Ltake hr (by decide) rfl pass0 (pa_cons (pv 0) (pa_cons pe_int pa_nil))) (fun _ _ => rfl)) pa_nil)))))) pss_nil)
  (pss_cons (ps_if (pt_cmpR op_eq (pv 1) pe_str (nomark _)) (pss_cons (ps_set (i := 2) sc_Lworth.nd rfl (Or.inl rfl) (pe_op op_add pe_int (Y.pe_c c_Ltake hr (by decide) rfl pass0 (pa_cons (pv 0) (pa_cons (pe_ix ix_list (pe_lst (pa_cons pe_int (pa_cons pe_int pa_nil))) (Y.pe_c c_Ltake hr (by decide) rfl pass0 (pa_cons (pv 0) (pa_cons pe_int pa_nil))) (fun _ _ => rfl)) pa_nil)))))
  (pss_cons (ps_set (i := 3) sc_Lworth.nd rfl (Or.inl rfl) (pe_op op_add pe_int (Y.pe_c c_Ltake hr (by decide) rfl pass0 (pa_cons (pv 0) (pa_cons (pe_op op_sub (pv 2) pe_int) pa_nil)))))
  (pss_one (ps_ret (pe_ix ix_list (pe_lst (pa_cons (pe_tup (pa_cons (pv 2) (pa_cons (pv 3) pa_nil))) (pa_cons (pe_tup (pa_cons (pv 2) (pa_cons (pv 3) pa_nil))) (pa_cons pe_non pa_nil)))) (Y.pe_c c_Ltake hr (by decide) rfl pass0 (pa_cons (pv 0) (pa_cons pe_int pa_nil))) (fun _ _ => rfl)))))) pss_nil)
  (pss_cons (ps_set (i := 4) sc_Lworth.nd rfl (Or.inl rfl) (Y.pe_c c_Lcoins hr (by decide) rfl pass0 (pa_cons (pv 0) pa_nil)))
  (pss_cons (ps_if (PW.pt (pw_and (pt_cmpR op_eq (pv 1) pe_str (nomark _)) (pw_and1 (pt_cmpR op_eq (Y.pe_c c_Ltake hr (by decide) rfl pass0 (pa_cons (pv 0) (pa_cons pe_int pa_nil))) pe_int (nomark _))))) (pss_one (ps_ret pe_non)) pss_nil)
  (pss_one (ps_ret (pv 4))))))))
  · obtain ⟨_, _, rfl, _⟩ := id h
    exact pure_Lworth h
theorem ok_Lrule (T : Txt K mg) {f : Addr} {fd : FuncData} (F : FunD K "_law_rule" "_law_rule" (defArgs s_Lrule) (defBody s_Lrule) (defScope s_Lrule) [] [] f fd) (c_Ltake : Y.Cal P w K mg base CX0 1 "_law_take" (sp_Ltake K) []) (c_Lworth : Y.Cal P w K mg base CX0 3 "_law_worth" (sp_Lworth K) []) : FnG P w K mg base CX0 4 f fd ["_law_row", "_law_day_here"] (sp_Lrule K) := by
  refine g_def F sc_Lrule (fun vs H Q E h => ?_) (fun cdv A outer s H vs Q E hr h => ⟨t_Lrule K, PSs.nox ?_, ?_⟩)
  · obtain ⟨_, _, rfl, _⟩ := h
    rfl
  · exact (pss_cons (ps_set (i := 2) sc_Lrule.nd rfl (Or.inl rfl) (pe_ix ix_list (pe_lst (pa_cons pe_str (pa_cons pe_str (pa_cons pe_str (pa_cons pe_str (pa_cons pe_str (pa_cons pe_str (pa_cons pe_str (pa_cons pe_str (pa_cons pe_str pa_nil)))))))))) (Y.pe_c c_Ltake hr (by decide) rfl pass0 (pa_cons (pv 0) (pa_cons pe_int pa_nil))) (fun _ _ => rfl)))
  (pss_cons (ps_set (i := 3) sc_Lrule.nd rfl (Or.inl rfl) (pe_ix ix_list (pe_lst (pa_cons (pe_op op_sub (Y.pe_c c_Ltake hr (by decide) rfl pass0 (pa_cons (pv 0) (pa_cons pe_int pa_nil))) pe_int) (pa_cons (Y.pe_c c_Ltake hr (by decide) rfl pass0 (pa_cons (pv 0) (pa_cons pe_int pa_nil))) (pa_cons (pe_un un_neg (pv 1)) (pa_cons pe_int pa_nil))))) (Y.pe_c c_Ltake hr (by decide) rfl pass0 (pa_cons (pv 0) (pa_cons pe_int pa_nil))) (fun _ _ => rfl)))
  (pss_cons (ps_set (i := 4) sc_Lrule.nd rfl (Or.inl rfl) (pe_callB (call_min2 rfl) (by rfl) T.b_min (by decide +kernel) (pa_cons (pe_op op_pow pe_int pe_int) (pa_cons (pe_callB (call_max2 rfl) (by rfl) T.b_max (by decide +kernel) (pa_cons pe_int (pa_cons (pe_op op_add (pv 1) (pv 3)) pa_nil))) pa_nil))))
  (pss_cons (ps_set (i := 5) sc_Lrule.nd rfl (Or.inl rfl) (pe_op op_add (pv 4) (pe_ix ix_list (pe_lst (pa_cons pe_int (pa_cons (Y.pe_c c_Ltake hr (by decide) rfl pass0 (pa_cons (pv 0) (pa_cons pe_int pa_nil))) (pa_cons (Y.pe_c c_Ltake hr (by decide) rfl pass0 (pa_cons (pv 0) (pa_cons pe_int pa_nil))) (pa_cons pe_int (pa_cons (pe_op op_pow pe_int pe_int) pa_nil)))))) (Y.pe_c c_Ltake hr (by decide) rfl pass0 (pa_cons (pv 0) (pa_cons pe_int pa_nil))) (fun _ _ => rfl))))
  (pss_one (ps_ret (pe_tup (pa_cons (pv 2) (pa_cons (pv 4) (pa_cons (pe_callB (call_min2 rfl) (by rfl) T.b_min (by decide +kernel) (pa_cons (pe_op op_pow pe_int pe_int) (pa_cons (pv 5) pa_nil))) (pa_cons (Y.pe_c c_Lworth hr (by decide) rfl pass0 (pa_cons (pv 0) (pa_cons (pv 2) pa_nil))) pa_nil)))))))))))
  · obtain ⟨_, _, rfl, _⟩ := id h
    exact pure_Lrule h
theorem ok_Lfew (T : Txt K mg) {f : Addr} {fd : FuncData} (F : FunD K "_law_few" "_law_few" (defArgs s_Lfew) (defBody s_Lfew) (defScope s_Lfew) [] [] f fd) (c_Ltake : Y.Cal P w K mg base CX0 1 "_law_take" (sp_Ltake K) []) (c_Lrule : Y.Cal P w K mg base CX0 4 "_law_rule" (sp_Lrule K) []) : FnG P w K mg base CX0 5 f fd ["_law_row", "_law_day_here", "_law_most"] (sp_Lfew K) := by
  refine g_def F sc_Lfew (fun vs H Q E h => ?_) (fun cdv A outer s H vs Q E hr h => ⟨t_Lfew K, PSs.nox ?_, ?_⟩)
  · obtain ⟨_, _, _, rfl, _⟩ := h
    rfl
  · exact (pss_cons (ps_set (i := 3) sc_Lfew.nd rfl (Or.inl rfl) (pe_lst pa_nil))
  (pss_cons (ps_if (pt_cmpR op_gt (Y.pe_c c_Ltake hr (by decide) rfl pass0 (pa_cons (pv 0) (pa_cons pe_int pa_nil))) pe_int (nomark _)) (pss_one (ps_expr (pe_bm PySem.F.plainAttrs_list PySem.F.slot_list_append PySem.F.type_list_append mt_append (pv 3) (pa_cons (pe_tup (pa_cons pe_str (pa_cons pe_int (pa_cons (pe_op op_pow pe_int pe_int) (pa_cons (pe_op op_add (Y.pe_c c_Ltake hr (by decide) rfl pass0 (pa_cons (pv 0) (pa_cons pe_int pa_nil))) pe_int) pa_nil))))) pa_nil)))) pss_nil)
  (pss_cons (ps_for PassesOwn.never rfl (pi_range1 rfl T.b_range (pa_cons (Y.pe_c c_Ltake hr (by decide) rfl pass0 (pa_cons (pv 0) (pa_cons (pe_op op_add (pv 2) pe_int) pa_nil))) pa_nil)) (pg_name (i := 4) sc_Lfew.nd rfl (Or.inl rfl)) (pss_one (ps_expr (pe_bm PySem.F.plainAttrs_list PySem.F.slot_list_append PySem.F.type_list_append mt_append (pv 3) (pa_cons (Y.pe_c c_Lrule hr (by decide) rfl pass0 (pa_cons (pv 0) (pa_cons (pv 1) pa_nil))) pa_nil)))))
  (pss_one (ps_ret (pv 3))))))
  · obtain ⟨_, _, _, rfl, _⟩ := id h
    exact pure_Lfew h
theorem ok_is_whole (T : Txt K mg) {f : Addr} {fd : FuncData} (F : FunD K "is_whole" "is_whole" (defArgs s_is_whole) (defBody s_is_whole) (defScope s_is_whole) [] [] f fd)  : FnG P w K mg base CX0 1 f fd ["thing"] (sp_is_whole K) := by
  refine g_def F sc_is_whole (fun vs H Q E h => ?_) (fun cdv A outer s H vs Q E hr h => ⟨t_is_whole K, PSs.nox ?_, ?_⟩)
  · obtain ⟨_, rfl, _⟩ := h
    rfl
  · exact (pss_one (ps_ret (pe_and (pe_callB call_isi (by rfl) T.b_isinstance (by decide +kernel) (pa_cons (pv 0) (pa_cons (pe_bltn (v := .ty "int") (by rfl) T.b_int (by decide +kernel) rfl) pa_nil))) (pe_one (pe_not (pe_callB call_isi (by rfl) T.b_isinstance (by decide +kernel) (pa_cons (pv 0) (pa_cons (pe_bltn (v := .ty "bool") (by rfl) T.b_bool (by decide +kernel) rfl) pa_nil))))))))
  · obtain ⟨_, rfl, _⟩ := id h
    exact pure_is_whole h
theorem ok_is_day (T : Txt K mg) {f : Addr} {fd : FuncData} (F : FunD K "is_day" "is_day" (defArgs s_is_day) (defBody s_is_day) (defScope s_is_day) [] [] f fd) (c_is_whole : Y.Cal P w K mg base CX0 1 "is_whole" (sp_is_whole K) []) : FnG P w K mg base CX0 2 f fd ["thing"] (sp_is_day K) := by
  refine g_def F sc_is_day (fun vs H Q E h => ?_) (fun cdv A outer s H vs Q E hr h => ⟨t_is_day K, PSs.nox ?_, ?_⟩)
  · obtain ⟨_, rfl, _⟩ := h
    rfl
  · exact (pss_one (ps_ret (pe_and (Y.pe_c c_is_whole hr (by decide) rfl pass0 (pa_cons (pv 0) pa_nil)) (pe_one (pe_chain op_le op_le pe_int (pv 0) (pe_glob rfl T.c_LAST_DAY.choose_spec.1 T.c_LAST_DAY.choose_spec.2))))))
  · obtain ⟨_, rfl, _⟩ := id h
    exact pure_is_day h
theorem ok_is_two_days (T : Txt K mg) {f : Addr} {fd : FuncData} (F : FunD K "is_two_days" "is_two_days" (defArgs s_is_two_days) (defBody s_is_two_days) (defScope s_is_two_days) [] [] f fd) (c_is_day : Y.Cal P w K mg base CX0 2 "is_day" (sp_is_day K) []) : FnG P w K mg base CX0 3 f fd ["thing"] (sp_is_two_days K) := by
  refine g_def F sc_is_two_days (fun vs H Q E h => ?_) (fun cdv A outer s H vs Q E hr h => ⟨t_is_two_days K, PSs.nox ?_, ?_⟩)
  · obtain ⟨_, rfl, _⟩ := h
    rfl
  · exact (pss_one (ps_ret (pe_and (pe_callB call_isi (by rfl) T.b_isinstance (by decide +kernel) (pa_cons (pv 0) (pa_cons (pe_bltn (v := .ty "tuple") (by rfl) T.b_tuple (by decide +kernel) rfl) pa_nil))) (pe_and (pe_cmpR op_eq (pe_callB call_len_seq (by rfl) T.b_len (by decide +kernel) (pa_cons (pv 0) pa_nil)) pe_int (nomark _)) (pe_and (Y.pe_c c_is_day hr (by decide) rfl pass0 (pa_cons (pe_ix ix_tup (pv 0) pe_int (fun _ _ => rfl)) pa_nil)) (pe_one (Y.pe_c c_is_day hr (by decide) rfl pass0 (pa_cons (pe_ix ix_tup (pv 0) pe_int (fun _ _ => rfl)) pa_nil))))))))
  · obtain ⟨_, rfl, _⟩ := id h
    exact pure_is_two_days h
theorem ok_is_stretch (T : Txt K mg) {f : Addr} {fd : FuncData} (F : FunD K "is_stretch" "is_stretch" (defArgs s_is_stretch) (defBody s_is_stretch) (defScope s_is_stretch) [] [] f fd) (c_is_two_days : Y.Cal P w K mg base CX0 3 "is_two_days" (sp_is_two_days K) []) : FnG P w K mg base CX0 4 f fd ["thing"] (sp_is_stretch K) := by
  refine g_def F sc_is_stretch (fun vs H Q E h => ?_) (fun cdv A outer s H vs Q E hr h => ⟨t_is_stretch K, PSs.nox ?_, ?_⟩)
  · obtain ⟨_, rfl, _⟩ := h
    rfl
  · exact (pss_one (ps_ret (pe_and (Y.pe_c c_is_two_days hr (by decide) rfl pass0 (pa_cons (pv 0) pa_nil)) (pe_one (pe_cmpR op_le (pe_ix ix_tup (pv 0) pe_int (fun _ _ => rfl)) (pe_ix ix_tup (pv 0) pe_int (fun _ _ => rfl)) (nomark _))))))
  · obtain ⟨_, rfl, _⟩ := id h
    exact pure_is_stretch h
theorem ok_Rule_init (T : Txt K mg) {f : Addr} {fd : FuncData} (F : FunD K "__init__" "Rule.__init__" (defArgs s_Rule_init) (defBody s_Rule_init) (defScope s_Rule_init) [] [] f fd)  : FnG P w K mg base CX0 1 f fd ["self", "first", "last", "worth"] (sp_Rule_init K) := by
  refine g_def F sc_Rule_init (fun vs H Q E h => ?_) (fun cdv A outer s H vs Q E hr h => ⟨t_Rule_init K, PSs.nox ?_, ?_⟩)
  · obtain ⟨_, _, _, _, rfl, _⟩ := h
    rfl
  · exact (pss_cons (ps_fld (pv 0) (pv 1) rfl)
  (pss_cons (ps_fld (pv 0) (pv 2) rfl)
  (pss_one (ps_fld (pv 0) (pv 3) rfl))))
  · obtain ⟨_, _, _, _, rfl, _⟩ := id h
    exact pure_Rule_init h
theorem ok_made (T : Txt K mg) {f : Addr} {fd : FuncData} (F : FunD K "made" "made" (defArgs s_made) (defBody s_made) (defScope s_made) [] [] f fd) (c_Price : Y.Mak P w K mg base CX0 1 "Price" (He.ga K "Price") (sp_Rule_init K) []) (c_Come : Y.Mak P w K mg base CX0 1 "Come" (He.ga K "Come") (sp_Rule_init K) []) (c_Go : Y.Mak P w K mg base CX0 1 "Go" (He.ga K "Go") (sp_Rule_init K) []) (c_Least : Y.Mak P w K mg base CX0 1 "Least" (He.ga K "Least") (sp_Rule_init K) []) (c_Most : Y.Mak P w K mg base CX0 1 "Most" (He.ga K "Most") (sp_Rule_init K) []) (c_Deal : Y.Mak P w K mg base CX0 1 "Deal" (He.ga K "Deal") (sp_Rule_init K) []) (c_Fee : Y.Mak P w K mg base CX0 1 "Fee" (He.ga K "Fee") (sp_Rule_init K) []) : FnG P w K mg base CX0 3 f fd ["word", "first", "last", "worth"] (sp_made K) := by
  refine g_def F sc_made (fun vs H Q E h => ?_) (fun cdv A outer s H vs Q E hr h => ⟨t_made K, PSs.nox ?_, ?_⟩)
  · obtain ⟨_, _, _, _, rfl, _⟩ := h
    rfl
  · exact (pss_cons (ps_if (pt_cmpR op_eq (pv 0) pe_str (nomark _)) (pss_one (ps_ret (Y.pe_k c_Price hr (by decide) rfl pass0 (pa_cons (pv 1) (pa_cons (pv 2) (pa_cons (pv 3) pa_nil)))))) pss_nil)
  (pss_cons (ps_if (pt_cmpR op_eq (pv 0) pe_str (nomark _)) (pss_one (ps_ret (Y.pe_k c_Come hr (by decide) rfl pass0 (pa_cons (pv 1) (pa_cons (pv 2) (pa_cons (pv 3) pa_nil)))))) pss_nil)
  (pss_cons (ps_if (pt_cmpR op_eq (pv 0) pe_str (nomark _)) (pss_one (ps_ret (Y.pe_k c_Go hr (by decide) rfl pass0 (pa_cons (pv 1) (pa_cons (pv 2) (pa_cons (pv 3) pa_nil)))))) pss_nil)
  (pss_cons (ps_if (pt_cmpR op_eq (pv 0) pe_str (nomark _)) (pss_one (ps_ret (Y.pe_k c_Least hr (by decide) rfl pass0 (pa_cons (pv 1) (pa_cons (pv 2) (pa_cons (pv 3) pa_nil)))))) pss_nil)
  (pss_cons (ps_if (pt_cmpR op_eq (pv 0) pe_str (nomark _)) (pss_one (ps_ret (Y.pe_k c_Most hr (by decide) rfl pass0 (pa_cons (pv 1) (pa_cons (pv 2) (pa_cons (pv 3) pa_nil)))))) pss_nil)
  (pss_cons (ps_if (pt_cmpR op_eq (pv 0) pe_str (nomark _)) (pss_one (ps_ret (Y.pe_k c_Deal hr (by decide) rfl pass0 (pa_cons (pv 1) (pa_cons (pv 2) (pa_cons (pv 3) pa_nil)))))) pss_nil)
  (pss_one (ps_ret (Y.pe_k c_Fee hr (by decide) rfl pass0 (pa_cons (pv 1) (pa_cons (pv 2) (pa_cons (pv 3) pa_nil))))))))))))
  · obtain ⟨_, _, _, _, rfl, _⟩ := id h
    exact pure_made h
theorem ok_is_coins (T : Txt K mg) {f : Addr} {fd : FuncData} (F : FunD K "is_coins" "is_coins" (defArgs s_is_coins) (defBody s_is_coins) (defScope s_is_coins) [] [] f fd) (c_is_whole : Y.Cal P w K mg base CX0 1 "is_whole" (sp_is_whole K) []) : FnG P w K mg base CX0 2 f fd ["thing"] (sp_is_coins K) := by
  refine g_def F sc_is_coins (fun vs H Q E h => ?_) (fun cdv A outer s H vs Q E hr h => ⟨t_is_coins K, PSs.nox ?_, ?_⟩)
  · obtain ⟨_, rfl, _⟩ := h
    rfl
  · exact (pss_one (ps_ret (pe_and (Y.pe_c c_is_whole hr (by decide) rfl pass0 (pa_cons (pv 0) pa_nil)) (pe_one (pe_chain op_le op_le pe_int (pv 0) (pe_glob rfl T.c_MOST_COINS.choose_spec.1 T.c_MOST_COINS.choose_spec.2))))))
  · obtain ⟨_, rfl, _⟩ := id h
    exact pure_is_coins h
theorem ok_Price_fits (T : Txt K mg) {f : Addr} {fd : FuncData} (F : FunD K "fits" "Price.fits" (defArgs s_Price_fits) (defBody s_Price_fits) (defScope s_Price_fits) [] [] f fd) (c_is_coins : Y.Cal P w K mg base CX0 2 "is_coins" (sp_is_coins K) []) : FnG P w K mg base CX0 3 f fd ["self"] (sp_Price_fits K) := by
  refine g_def F sc_Price_fits (fun vs H Q E h => ?_) (fun cdv A outer s H vs Q E hr h => ⟨t_Price_fits K, PSs.nox ?_, ?_⟩)
  · obtain ⟨_, rfl, _⟩ := h
    rfl
  · exact (pss_one (ps_ret (pe_or (pe_cmpR op_isN (pe_fld (pv 0) rfl) pe_non (nomark _)) (pe_one (Y.pe_c c_is_coins hr (by decide) rfl pass0 (pa_cons (pe_fld (pv 0) rfl) pa_nil))))))
  · obtain ⟨_, rfl, _⟩ := id h
    exact pure_Price_fits h
theorem ok_Come_fits (T : Txt K mg) {f : Addr} {fd : FuncData} (F : FunD K "fits" "Come.fits" (defArgs s_Come_fits) (defBody s_Come_fits) (defScope s_Come_fits) [] [] f fd)  : FnG P w K mg base CX0 1 f fd ["self"] (sp_Come_fits K) := by
  refine g_def F sc_Come_fits (fun vs H Q E h => ?_) (fun cdv A outer s H vs Q E hr h => ⟨t_Come_fits K, PSs.nox ?_, ?_⟩)
  · obtain ⟨_, rfl, _⟩ := h
    rfl
  · exact (pss_one (ps_ret (pe_callB call_isi (by rfl) T.b_isinstance (by decide +kernel) (pa_cons (pe_fld (pv 0) rfl) (pa_cons (pe_bltn (v := .ty "bool") (by rfl) T.b_bool (by decide +kernel) rfl) pa_nil)))))
  · obtain ⟨_, rfl, _⟩ := id h
    exact pure_Come_fits h
theorem ok_Go_fits (T : Txt K mg) {f : Addr} {fd : FuncData} (F : FunD K "fits" "Go.fits" (defArgs s_Go_fits) (defBody s_Go_fits) (defScope s_Go_fits) [] [] f fd)  : FnG P w K mg base CX0 1 f fd ["self"] (sp_Go_fits K) := by
  refine g_def F sc_Go_fits (fun vs H Q E h => ?_) (fun cdv A outer s H vs Q E hr h => ⟨t_Go_fits K, PSs.nox ?_, ?_⟩)
  · obtain ⟨_, rfl, _⟩ := h
    rfl
  · exact (pss_one (ps_ret (pe_callB call_isi (by rfl) T.b_isinstance (by decide +kernel) (pa_cons (pe_fld (pv 0) rfl) (pa_cons (pe_bltn (v := .ty "bool") (by rfl) T.b_bool (by decide +kernel) rfl) pa_nil)))))
  · obtain ⟨_, rfl, _⟩ := id h
    exact pure_Go_fits h
theorem ok_is_nights (T : Txt K mg) {f : Addr} {fd : FuncData} (F : FunD K "is_nights" "is_nights" (defArgs s_is_nights) (defBody s_is_nights) (defScope s_is_nights) [] [] f fd) (c_is_whole : Y.Cal P w K mg base CX0 1 "is_whole" (sp_is_whole K) []) : FnG P w K mg base CX0 2 f fd ["thing"] (sp_is_nights K) := by
  refine g_def F sc_is_nights (fun vs H Q E h => ?_) (fun cdv A outer s H vs Q E hr h => ⟨t_is_nights K, PSs.nox ?_, ?_⟩)
  · obtain ⟨_, rfl, _⟩ := h
    rfl
  · exact (pss_one (ps_ret (pe_and (Y.pe_c c_is_whole hr (by decide) rfl pass0 (pa_cons (pv 0) pa_nil)) (pe_one (pe_chain op_le op_le pe_int (pv 0) (pe_glob rfl T.c_MOST_NIGHTS.choose_spec.1 T.c_MOST_NIGHTS.choose_spec.2))))))
  · obtain ⟨_, rfl, _⟩ := id h
    exact pure_is_nights h
theorem ok_Least_fits (T : Txt K mg) {f : Addr} {fd : FuncData} (F : FunD K "fits" "Least.fits" (defArgs s_Least_fits) (defBody s_Least_fits) (defScope s_Least_fits) [] [] f fd) (c_is_nights : Y.Cal P w K mg base CX0 2 "is_nights" (sp_is_nights K) []) : FnG P w K mg base CX0 3 f fd ["self"] (sp_Least_fits K) := by
  refine g_def F sc_Least_fits (fun vs H Q E h => ?_) (fun cdv A outer s H vs Q E hr h => ⟨t_Least_fits K, PSs.nox ?_, ?_⟩)
  · obtain ⟨_, rfl, _⟩ := h
    rfl
  · exact (pss_one (ps_ret (Y.pe_c c_is_nights hr (by decide) rfl pass0 (pa_cons (pe_fld (pv 0) rfl) pa_nil))))
  · obtain ⟨_, rfl, _⟩ := id h
    exact pure_Least_fits h
theorem ok_Most_fits (T : Txt K mg) {f : Addr} {fd : FuncData} (F : FunD K "fits" "Most.fits" (defArgs s_Most_fits) (defBody s_Most_fits) (defScope s_Most_fits) [] [] f fd) (c_is_nights : Y.Cal P w K mg base CX0 2 "is_nights" (sp_is_nights K) []) : FnG P w K mg base CX0 3 f fd ["self"] (sp_Most_fits K) := by
  refine g_def F sc_Most_fits (fun vs H Q E h => ?_) (fun cdv A outer s H vs Q E hr h => ⟨t_Most_fits K, PSs.nox ?_, ?_⟩)
  · obtain ⟨_, rfl, _⟩ := h
    rfl
  · exact (pss_one (ps_ret (Y.pe_c c_is_nights hr (by decide) rfl pass0 (pa_cons (pe_fld (pv 0) rfl) pa_nil))))
  · obtain ⟨_, rfl, _⟩ := id h
    exact pure_Most_fits h
theorem ok_Deal_fits (T : Txt K mg) {f : Addr} {fd : FuncData} (F : FunD K "fits" "Deal.fits" (defArgs s_Deal_fits) (defBody s_Deal_fits) (defScope s_Deal_fits) [] [] f fd) (c_is_nights : Y.Cal P w K mg base CX0 2 "is_nights" (sp_is_nights K) []) (c_is_whole : Y.Cal P w K mg base CX0 1 "is_whole" (sp_is_whole K) []) : FnG P w K mg base CX0 3 f fd ["self"] (sp_Deal_fits K) := by
  refine g_def F sc_Deal_fits (fun vs H Q E h => ?_) (fun cdv A outer s H vs Q E hr h => ⟨t_Deal_fits K, PSs.nox ?_, ?_⟩)
  · obtain ⟨_, rfl, _⟩ := h
    rfl
  · exact (pss_cons (ps_if (pt_cmpR op_isN (pe_fld (pv 0) rfl) pe_non (nomark _)) (pss_one (ps_ret pe_bl)) pss_nil)
  (pss_cons (ps_if (PW.pt (pw_or (pt_not (pt_val (pe_callB call_isi (by rfl) T.b_isinstance (by decide +kernel) (pa_cons (pe_fld (pv 0) rfl) (pa_cons (pe_bltn (v := .ty "tuple") (by rfl) T.b_tuple (by decide +kernel) rfl) pa_nil))))) (pw_or1 (pt_cmpR op_ne (pe_callB call_len (by rfl) T.b_len (by decide +kernel) (pa_cons (pe_fld (pv 0) rfl) pa_nil)) pe_int (nomark _))))) (pss_one (ps_ret pe_bl)) pss_nil)
  (pss_cons (ps_asg (pe_fld (pv 0) rfl) (pg_tup (by rfl) (pgs_cons (pg_name (i := 1) sc_Deal_fits.nd rfl (Or.inl rfl)) (pgs_cons (pg_name (i := 2) sc_Deal_fits.nd rfl (Or.inl rfl)) pgs_nil))))
  (pss_one (ps_ret (pe_and (Y.pe_c c_is_nights hr (by decide) rfl pass0 (pa_cons (pv 1) pa_nil)) (pe_and (Y.pe_c c_is_whole hr (by decide) rfl pass0 (pa_cons (pv 2) pa_nil)) (pe_one (pe_chain op_le op_lt pe_int (pv 2) (pv 1))))))))))
  · obtain ⟨_, rfl, _⟩ := id h
    exact pure_Deal_fits h
theorem ok_Fee_fits (T : Txt K mg) {f : Addr} {fd : FuncData} (F : FunD K "fits" "Fee.fits" (defArgs s_Fee_fits) (defBody s_Fee_fits) (defScope s_Fee_fits) [] [] f fd) (c_is_coins : Y.Cal P w K mg base CX0 2 "is_coins" (sp_is_coins K) []) : FnG P w K mg base CX0 3 f fd ["self"] (sp_Fee_fits K) := by
  refine g_def F sc_Fee_fits (fun vs H Q E h => ?_) (fun cdv A outer s H vs Q E hr h => ⟨t_Fee_fits K, PSs.nox ?_, ?_⟩)
  · obtain ⟨_, rfl, _⟩ := h
    rfl
  · exact (pss_one (ps_ret (Y.pe_c c_is_coins hr (by decide) rfl pass0 (pa_cons (pe_fld (pv 0) rfl) pa_nil))))
  · obtain ⟨_, rfl, _⟩ := id h
    exact pure_Fee_fits h
theorem ok_rule_of (T : Txt K mg) {f : Addr} {fd : FuncData} (F : FunD K "rule_of" "rule_of" (defArgs s_rule_of) (defBody s_rule_of) (defScope s_rule_of) [] [] f fd) (c_is_stretch : Y.Cal P w K mg base CX0 4 "is_stretch" (sp_is_stretch K) []) (c_made : Y.Cal P w K mg base CX0 3 "made" (sp_made K) []) (c_Price_fits : Y.Met P w K mg base CX0 3 (He.ga K "Price") "fits" (sp_Price_fits K) []) (c_Come_fits : Y.Met P w K mg base CX0 1 (He.ga K "Come") "fits" (sp_Come_fits K) []) (c_Go_fits : Y.Met P w K mg base CX0 1 (He.ga K "Go") "fits" (sp_Go_fits K) []) (c_Least_fits : Y.Met P w K mg base CX0 3 (He.ga K "Least") "fits" (sp_Least_fits K) []) (c_Most_fits : Y.Met P w K mg base CX0 3 (He.ga K "Most") "fits" (sp_Most_fits K) []) (c_Deal_fits : Y.Met P w K mg base CX0 3 (He.ga K "Deal") "fits" (sp_Deal_fits K) []) (c_Fee_fits : Y.Met P w K mg base CX0 3 (He.ga K "Fee") "fits" (sp_Fee_fits K) []) : FnG P w K mg base CX0 5 f fd ["thing"] (sp_rule_of K) := by
  refine g_def F sc_rule_of (fun vs H Q E h => ?_) (fun cdv A outer s H vs Q E hr h => ⟨t_rule_of K, PSs.nox ?_, ?_⟩)
  · obtain ⟨_, rfl, _⟩ := h
    rfl
  · exact (pss_cons (ps_if (PW.pt (pw_or (pt_not (pt_val (pe_callB call_isi (by rfl) T.b_isinstance (by decide +kernel) (pa_cons (pv 0) (pa_cons (pe_bltn (v := .ty "tuple") (by rfl) T.b_tuple (by decide +kernel) rfl) pa_nil))))) (pw_or (pt_cmpR op_ne (pe_callB call_len_seq (by rfl) T.b_len (by decide +kernel) (pa_cons (pv 0) pa_nil)) pe_int (nomark _)) (pw_or (pt_not (pt_val (pe_callB call_isi (by rfl) T.b_isinstance (by decide +kernel) (pa_cons (pe_ix ix_tup (pv 0) pe_int (fun _ _ => rfl)) (pa_cons (pe_bltn (v := .ty "str") (by rfl) T.b_str (by decide +kernel) rfl) pa_nil))))) (pw_or1 (pt_cmpR op_notIn_seq (pe_ix ix_tup (pv 0) pe_int (fun _ _ => rfl)) (pe_glob rfl T.c_WORDS.choose_spec.1 T.c_WORDS.choose_spec.2) (by rfl))))))) (pss_one (ps_ret pe_non)) pss_nil)
  (pss_cons (ps_if (pt_not (pt_val (Y.pe_c c_is_stretch hr (by decide) rfl pass0 (pa_cons (pe_tup (pa_cons (pe_ix ix_tup (pv 0) pe_int (fun _ _ => rfl)) (pa_cons (pe_ix ix_tup (pv 0) pe_int (fun _ _ => rfl)) pa_nil))) pa_nil)))) (pss_one (ps_ret pe_non)) pss_nil)
  (pss_cons (ps_set (i := 1) sc_rule_of.nd rfl (Or.inl rfl) (Y.pe_c c_made hr (by decide) rfl pass0 (pa_cons (pe_ix ix_tup (pv 0) pe_int (fun _ _ => rfl)) (pa_cons (pe_ix ix_tup (pv 0) pe_int (fun _ _ => rfl)) (pa_cons (pe_ix ix_tup (pv 0) pe_int (fun _ _ => rfl)) (pa_cons (pe_ix ix_tup (pv 0) pe_int (fun _ _ => rfl)) pa_nil))))))
  (pss_cons (ps_if (pt_not (pt_val (Y.pe_rule fun w => match w with | .price => Y.pe_m0 c_Price_fits hr (by decide) pass0 (pv 1) | .come => Y.pe_m0 c_Come_fits hr (by decide) pass0 (pv 1) | .go => Y.pe_m0 c_Go_fits hr (by decide) pass0 (pv 1) | .least => Y.pe_m0 c_Least_fits hr (by decide) pass0 (pv 1) | .most => Y.pe_m0 c_Most_fits hr (by decide) pass0 (pv 1) | .deal => Y.pe_m0 c_Deal_fits hr (by decide) pass0 (pv 1) | .fee => Y.pe_m0 c_Fee_fits hr (by decide) pass0 (pv 1)))) (pss_one (ps_ret pe_non)) pss_nil)
  (pss_one (ps_ret (pv 1)))))))
  · obtain ⟨_, rfl, _⟩ := id h
    exact pure_rule_of h
theorem ok_Price_word (T : Txt K mg) {f : Addr} {fd : FuncData} (F : FunD K "word" "Price.word" (defArgs s_Price_word) (defBody s_Price_word) (defScope s_Price_word) [] [] f fd)  : FnG P w K mg base CX0 1 f fd ["self"] (sp_Price_word K) := by
  refine g_def F sc_Price_word (fun vs H Q E h => ?_) (fun cdv A outer s H vs Q E hr h => ⟨t_Price_word K, PSs.nox ?_, ?_⟩)
  · obtain ⟨_, rfl, _⟩ := h
    rfl
  · exact (pss_one (ps_ret pe_str))
  · obtain ⟨_, rfl, _⟩ := id h
    exact pure_Price_word h
theorem ok_Come_word (T : Txt K mg) {f : Addr} {fd : FuncData} (F : FunD K "word" "Come.word" (defArgs s_Come_word) (defBody s_Come_word) (defScope s_Come_word) [] [] f fd)  : FnG P w K mg base CX0 1 f fd ["self"] (sp_Come_word K) := by
  refine g_def F sc_Come_word (fun vs H Q E h => ?_) (fun cdv A outer s H vs Q E hr h => ⟨t_Come_word K, PSs.nox ?_, ?_⟩)
  · obtain ⟨_, rfl, _⟩ := h
    rfl
  · exact (pss_one (ps_ret pe_str))
  · obtain ⟨_, rfl, _⟩ := id h
    exact pure_Come_word h
theorem ok_Go_word (T : Txt K mg) {f : Addr} {fd : FuncData} (F : FunD K "word" "Go.word" (defArgs s_Go_word) (defBody s_Go_word) (defScope s_Go_word) [] [] f fd)  : FnG P w K mg base CX0 1 f fd ["self"] (sp_Go_word K) := by
  refine g_def F sc_Go_word (fun vs H Q E h => ?_) (fun cdv A outer s H vs Q E hr h => ⟨t_Go_word K, PSs.nox ?_, ?_⟩)
  · obtain ⟨_, rfl, _⟩ := h
    rfl
  · exact (pss_one (ps_ret pe_str))
  · obtain ⟨_, rfl, _⟩ := id h
    exact pure_Go_word h
theorem ok_Least_word (T : Txt K mg) {f : Addr} {fd : FuncData} (F : FunD K "word" "Least.word" (defArgs s_Least_word) (defBody s_Least_word) (defScope s_Least_word) [] [] f fd)  : FnG P w K mg base CX0 1 f fd ["self"] (sp_Least_word K) := by
  refine g_def F sc_Least_word (fun vs H Q E h => ?_) (fun cdv A outer s H vs Q E hr h => ⟨t_Least_word K, PSs.nox ?_, ?_⟩)
  · obtain ⟨_, rfl, _⟩ := h
    rfl
  · exact (pss_one (ps_ret pe_str))
  · obtain ⟨_, rfl, _⟩ := id h
    exact pure_Least_word h
theorem ok_Most_word (T : Txt K mg) {f : Addr} {fd : FuncData} (F : FunD K "word" "Most.word" (defArgs s_Most_word) (defBody s_Most_word) (defScope s_Most_word) [] [] f fd)  : FnG P w K mg base CX0 1 f fd ["self"] (sp_Most_word K) := by
  refine g_def F sc_Most_word (fun vs H Q E h => ?_) (fun cdv A outer s H vs Q E hr h => ⟨t_Most_word K, PSs.nox ?_, ?_⟩)
  · obtain ⟨_, rfl, _⟩ := h
    rfl
  · exact (pss_one (ps_ret pe_str))
  · obtain ⟨_, rfl, _⟩ := id h
    exact pure_Most_word h
theorem ok_Deal_word (T : Txt K mg) {f : Addr} {fd : FuncData} (F : FunD K "word" "Deal.word" (defArgs s_Deal_word) (defBody s_Deal_word) (defScope s_Deal_word) [] [] f fd)  : FnG P w K mg base CX0 1 f fd ["self"] (sp_Deal_word K) := by
  refine g_def F sc_Deal_word (fun vs H Q E h => ?_) (fun cdv A outer s H vs Q E hr h => ⟨t_Deal_word K, PSs.nox ?_, ?_⟩)
  · obtain ⟨_, rfl, _⟩ := h
    rfl
  · exact (pss_one (ps_ret pe_str))
  · obtain ⟨_, rfl, _⟩ := id h
    exact pure_Deal_word h
theorem ok_Fee_word (T : Txt K mg) {f : Addr} {fd : FuncData} (F : FunD K "word" "Fee.word" (defArgs s_Fee_word) (defBody s_Fee_word) (defScope s_Fee_word) [] [] f fd)  : FnG P w K mg base CX0 1 f fd ["self"] (sp_Fee_word K) := by
  refine g_def F sc_Fee_word (fun vs H Q E h => ?_) (fun cdv A outer s H vs Q E hr h => ⟨t_Fee_word K, PSs.nox ?_, ?_⟩)
  · obtain ⟨_, rfl, _⟩ := h
    rfl
  · exact (pss_one (ps_ret pe_str))
  · obtain ⟨_, rfl, _⟩ := id h
    exact pure_Fee_word h
theorem ok_Book_init (T : Txt K mg) {f : Addr} {fd : FuncData} (F : FunD K "__init__" "Book.__init__" (defArgs s_Book_init) (defBody s_Book_init) (defScope s_Book_init) [.non] [] f fd) (c_rule_of : Y.Cal P w K mg base CX0 5 "rule_of" (sp_rule_of K) []) (c_Price_word : Y.Met P w K mg base CX0 1 (He.ga K "Price") "word" (sp_Price_word K) []) (c_Come_word : Y.Met P w K mg base CX0 1 (He.ga K "Come") "word" (sp_Come_word K) []) (c_Go_word : Y.Met P w K mg base CX0 1 (He.ga K "Go") "word" (sp_Go_word K) []) (c_Least_word : Y.Met P w K mg base CX0 1 (He.ga K "Least") "word" (sp_Least_word K) []) (c_Most_word : Y.Met P w K mg base CX0 1 (He.ga K "Most") "word" (sp_Most_word K) []) (c_Deal_word : Y.Met P w K mg base CX0 1 (He.ga K "Deal") "word" (sp_Deal_word K) []) (c_Fee_word : Y.Met P w K mg base CX0 1 (He.ga K "Fee") "word" (sp_Fee_word K) []) : FnG P w K mg base CX0 6 f fd ["self", "rules"] (sp_Book_init K) := by
  refine g_def F sc_Book_init (fun vs H Q E h => ?_) (fun cdv A outer s H vs Q E hr h => ⟨t_Book_init K, PSs.nox ?_, ?_⟩)
  · obtain ⟨_, _, rfl, _⟩ := h
    rfl
  · exact (pss_cons (ps_set (i := 2) sc_Book_init.nd rfl (Or.inl rfl) (pe_lst pa_nil))
  (pss_cons (ps_if (pt_cmpR op_notN (pv 1) pe_non (nomark _)) (pss_one (ps_set (i := 2) sc_Book_init.nd rfl (Or.inl rfl) (pe_callTy call_list_of (by rfl) T.b_list (by decide +kernel) (pa_cons (pv 1) pa_nil)))) pss_nil)
  (pss_cons (ps_fld (pv 0) (pe_lst pa_nil) rfl)
  (pss_cons (ps_fld (pv 0) pe_dnewK rfl)
  (pss_cons (ps_for PassesOwn.never rfl (pi_enum (by rfl) T.b_enumerate (pa_cons (pv 2) pa_nil)) (pg_tup (by rfl) (pgs_cons (pg_name (i := 3) sc_Book_init.nd rfl (Or.inl rfl)) (pgs_cons (pg_name (i := 4) sc_Book_init.nd rfl (Or.inl rfl)) pgs_nil))) (pss_cons (ps_set (i := 5) sc_Book_init.nd rfl (Or.inl rfl) (Y.pe_c c_rule_of hr (by decide) rfl pass0 (pa_cons (pv 4) pa_nil)))
  (pss_cons (ps_if (pt_cmpR op_isN (pv 5) pe_non (nomark _)) (pss_one Y.ps_never) pss_nil)
  (pss_cons (ps_expr (pe_bm PySem.F.plainAttrs_list PySem.F.slot_list_append PySem.F.type_list_append mt_append (pe_fld (pv 0) rfl) (pa_cons (pv 5) pa_nil)))
  (pss_one (ps_expr (pe_bm PySem.F.plainAttrs_list PySem.F.slot_list_insert PySem.F.type_list_insert mt_insert (pe_dsetd (pe_fld (pv 0) rfl) (Y.pe_rule fun w => match w with | .price => Y.pe_m0 c_Price_word hr (by decide) pass0 (pv 5) | .come => Y.pe_m0 c_Come_word hr (by decide) pass0 (pv 5) | .go => Y.pe_m0 c_Go_word hr (by decide) pass0 (pv 5) | .least => Y.pe_m0 c_Least_word hr (by decide) pass0 (pv 5) | .most => Y.pe_m0 c_Most_word hr (by decide) pass0 (pv 5) | .deal => Y.pe_m0 c_Deal_word hr (by decide) pass0 (pv 5) | .fee => Y.pe_m0 c_Fee_word hr (by decide) pass0 (pv 5)) (pe_lst pa_nil) ⟨by rfl, by rfl, by rfl, by rfl⟩) (pa_cons pe_int (pa_cons (pv 5) pa_nil)))))))))
  (pss_one (ps_if (pt_cmpR op_gt (pe_callB call_len_seq (by rfl) T.b_len (by decide +kernel) (pa_cons (pv 2) pa_nil)) (pe_glob rfl T.c_MOST_RULES.choose_spec.1 T.c_MOST_RULES.choose_spec.2) (nomark _)) (pss_one Y.ps_never) pss_nil)))))))
  · obtain ⟨_, _, rfl, _⟩ := id h
    exact pure_Book_init h
theorem ok_Inn_init (T : Txt K mg) {f : Addr} {fd : FuncData} (F : FunD K "__init__" "Inn.__init__" (defArgs s_Inn_init) (defBody s_Inn_init) (defScope s_Inn_init) [] [] f fd) (c_Book : Y.Mak P w K mg base CX0 6 "Book" (He.ga K "Book") (sp_Book_init K) []) : FnG P w K mg base CX0 8 f fd ["self", "rooms", "books"] (sp_Inn_init K) := by
  refine g_def F sc_Inn_init (fun vs H Q E h => ?_) (fun cdv A outer s H vs Q E hr h => ⟨t_Inn_init K, PSs.nox ?_, ?_⟩)
  · obtain ⟨_, _, _, rfl, _⟩ := h
    rfl
  · exact (pss_cons (ps_fld (pv 0) (pv 1) rfl)
  (pss_cons (ps_fld (pv 0) pe_dnewK rfl)
  (pss_cons (ps_for PassesOwn.never rfl (pi_list (pv 2)) (pg_tup (by rfl) (pgs_cons (pg_name (i := 3) sc_Inn_init.nd rfl (Or.inl rfl)) (pgs_cons (pg_name (i := 4) sc_Inn_init.nd rfl (Or.inl rfl)) pgs_nil))) (pss_one (ps_dput (hu_of hr.rm) (pe_fld (pv 0) rfl) (pv 3) (Y.pe_k c_Book hr (by decide) rfl pass0 (pa_cons (pv 4) pa_nil)) rfl)))
  (pss_cons (ps_fld (pv 0) pe_dnewK rfl)
  (pss_cons (ps_fld (pv 0) pe_int rfl)
  (pss_one (ps_fld (pv 0) (pe_lst pa_nil) rfl)))))))
  · obtain ⟨_, _, _, rfl, _⟩ := id h
    exact pure_Inn_init h
theorem ok_Inn_need_name (T : Txt K mg) {f : Addr} {fd : FuncData} (F : FunD K "need_name" "Inn.need_name" (defArgs s_Inn_need_name) (defBody s_Inn_need_name) (defScope s_Inn_need_name) [] [] f fd)  : FnG P w K mg base CX0 1 f fd ["self", "name"] (sp_Inn_need_name K) := by
  refine g_def F sc_Inn_need_name (fun vs H Q E h => ?_) (fun cdv A outer s H vs Q E hr h => ⟨t_Inn_need_name K, PSs.nox ?_, ?_⟩)
  · obtain ⟨_, _, rfl, _⟩ := h
    rfl
  · exact (pss_one (ps_if (pt_cmp (pc_dnotin (hu_of hr.rm) (pv 1) (pe_fld (pv 0) rfl))) (pss_one Y.ps_never) pss_nil))
  · obtain ⟨_, _, rfl, _⟩ := id h
    exact pure_Inn_need_name h
theorem ok_Rule_told (T : Txt K mg) {f : Addr} {fd : FuncData} (F : FunD K "told" "Rule.told" (defArgs s_Rule_told) (defBody s_Rule_told) (defScope s_Rule_told) [] [] f fd) (c_Price_word : Y.Met P w K mg base CX0 1 (He.ga K "Price") "word" (sp_Price_word K) []) (c_Come_word : Y.Met P w K mg base CX0 1 (He.ga K "Come") "word" (sp_Come_word K) []) (c_Go_word : Y.Met P w K mg base CX0 1 (He.ga K "Go") "word" (sp_Go_word K) []) (c_Least_word : Y.Met P w K mg base CX0 1 (He.ga K "Least") "word" (sp_Least_word K) []) (c_Most_word : Y.Met P w K mg base CX0 1 (He.ga K "Most") "word" (sp_Most_word K) []) (c_Deal_word : Y.Met P w K mg base CX0 1 (He.ga K "Deal") "word" (sp_Deal_word K) []) (c_Fee_word : Y.Met P w K mg base CX0 1 (He.ga K "Fee") "word" (sp_Fee_word K) []) : FnG P w K mg base CX0 2 f fd ["self"] (sp_Rule_told K) := by
  refine g_def F sc_Rule_told (fun vs H Q E h => ?_) (fun cdv A outer s H vs Q E hr h => ⟨t_Rule_told K, PSs.nox ?_, ?_⟩)
  · obtain ⟨_, rfl, _⟩ := h
    rfl
  · exact (pss_one (ps_ret (pe_tup (pa_cons (Y.pe_rule fun w => match w with | .price => Y.pe_m0 c_Price_word hr (by decide) pass0 (pv 0) | .come => Y.pe_m0 c_Come_word hr (by decide) pass0 (pv 0) | .go => Y.pe_m0 c_Go_word hr (by decide) pass0 (pv 0) | .least => Y.pe_m0 c_Least_word hr (by decide) pass0 (pv 0) | .most => Y.pe_m0 c_Most_word hr (by decide) pass0 (pv 0) | .deal => Y.pe_m0 c_Deal_word hr (by decide) pass0 (pv 0) | .fee => Y.pe_m0 c_Fee_word hr (by decide) pass0 (pv 0)) (pa_cons (pe_fld (pv 0) rfl) (pa_cons (pe_fld (pv 0) rfl) (pa_cons (pe_fld (pv 0) rfl) pa_nil)))))))
  · obtain ⟨_, rfl, _⟩ := id h
    exact pure_Rule_told h
theorem ok_Book_rules (T : Txt K mg) {f : Addr} {fd : FuncData} (F : FunD K "rules" "Book.rules" (defArgs s_Book_rules) (defBody s_Book_rules) (defScope s_Book_rules) [] [] f fd) (c_Price_told : Y.Met P w K mg base CX0 2 (He.ga K "Price") "told" (sp_Rule_told K) []) (c_Come_told : Y.Met P w K mg base CX0 2 (He.ga K "Come") "told" (sp_Rule_told K) []) (c_Go_told : Y.Met P w K mg base CX0 2 (He.ga K "Go") "told" (sp_Rule_told K) []) (c_Least_told : Y.Met P w K mg base CX0 2 (He.ga K "Least") "told" (sp_Rule_told K) []) (c_Most_told : Y.Met P w K mg base CX0 2 (He.ga K "Most") "told" (sp_Rule_told K) []) (c_Deal_told : Y.Met P w K mg base CX0 2 (He.ga K "Deal") "told" (sp_Rule_told K) []) (c_Fee_told : Y.Met P w K mg base CX0 2 (He.ga K "Fee") "told" (sp_Rule_told K) []) : FnG P w K mg base CX0 3 f fd ["self"] (sp_Book_rules K) := by
  refine g_def F sc_Book_rules (fun vs H Q E h => ?_) (fun cdv A outer s H vs Q E hr h => ⟨t_Book_rules K, PSs.nox ?_, ?_⟩)
  · obtain ⟨_, rfl, _⟩ := h
    rfl
  · exact (pss_one (ps_ret (pe_lc (own := [("rule", 1)]) (g := (gName 1)) (tt := tYes) rfl sc_Book_rules.nd (pi_list (pe_fld (pv 0) rfl)) (blkOk_by (own := [("rule", 1)]) (N := ["self", "rule"]) (sc := defScope s_Book_rules) (by decide +kernel)) (fun _ _ _ _ _ => (pg_name (i := 1) sc_Book_rules.nd rfl (Or.inl rfl))) (fun _ _ _ _ _ => pts_nil) (fun _ _ _ _ _ => (Y.pe_rule fun w => match w with | .price => Y.pe_m0 c_Price_told hr (by decide) pass0 (pv 1) | .come => Y.pe_m0 c_Come_told hr (by decide) pass0 (pv 1) | .go => Y.pe_m0 c_Go_told hr (by decide) pass0 (pv 1) | .least => Y.pe_m0 c_Least_told hr (by decide) pass0 (pv 1) | .most => Y.pe_m0 c_Most_told hr (by decide) pass0 (pv 1) | .deal => Y.pe_m0 c_Deal_told hr (by decide) pass0 (pv 1) | .fee => Y.pe_m0 c_Fee_told hr (by decide) pass0 (pv 1))))))
  · obtain ⟨_, rfl, _⟩ := id h
    exact pure_Book_rules h
theorem ok_Inn_rules_of (T : Txt K mg) {f : Addr} {fd : FuncData} (F : FunD K "rules_of" "Inn.rules_of" (defArgs s_Inn_rules_of) (defBody s_Inn_rules_of) (defScope s_Inn_rules_of) [] [] f fd) (c_Inn_need_name : Y.Met P w K mg base CX0 1 (He.ga K "Inn") "need_name" (sp_Inn_need_name K) []) (c_Book_rules : Y.Met P w K mg base CX0 3 (He.ga K "Book") "rules" (sp_Book_rules K) []) : FnG P w K mg base CX0 4 f fd ["self", "name"] (sp_Inn_rules_of K) := by
  refine g_def F sc_Inn_rules_of (fun vs H Q E h => ?_) (fun cdv A outer s H vs Q E hr h => ⟨t_Inn_rules_of K, PSs.nox ?_, ?_⟩)
  · obtain ⟨_, _, rfl, _⟩ := h
    rfl
  · exact (pss_cons (ps_expr (Y.pe_m c_Inn_need_name hr (by decide) pass0 (pv 0) (pa_cons (pv 1) pa_nil)))
  (pss_one (ps_ret (Y.pe_m0 c_Book_rules hr (by decide) pass0 (pe_dget (hu_of hr.rm) (pe_fld (pv 0) rfl) (pv 1) (fun _ _ => rfl))))))
  · obtain ⟨_, _, rfl, _⟩ := id h
    exact pure_Inn_rules_of h
theorem ok_nights_of (T : Txt K mg) {f : Addr} {fd : FuncData} (F : FunD K "nights_of" "nights_of" (defArgs s_nights_of) (defBody s_nights_of) (defScope s_nights_of) [] [] f fd)  : FnG P w K mg base CX0 1 f fd ["stay"] (sp_nights_of K) := by
  refine g_def F sc_nights_of (fun vs H Q E h => ?_) (fun cdv A outer s H vs Q E hr h => ⟨t_nights_of K, PSs.nox ?_, ?_⟩)
  · obtain ⟨_, rfl, _⟩ := h
    rfl
  · exact (pss_one (ps_ret (pe_listRg rfl rfl T.b_list (prg_2 rfl T.b_range (pe_ix ix_tup (pv 0) pe_int (fun _ _ => rfl)) (pe_ix ix_tup (pv 0) pe_int (fun _ _ => rfl))))))
  · obtain ⟨_, rfl, _⟩ := id h
    exact pure_nights_of h
theorem ok_Inn_full (T : Txt K mg) {f : Addr} {fd : FuncData} (F : FunD K "full" "Inn.full" (defArgs s_Inn_full) (defBody s_Inn_full) (defScope s_Inn_full) [] [] f fd) (c_nights_of : Y.Cal P w K mg base CX0 1 "nights_of" (sp_nights_of K) []) : FnG P w K mg base CX0 2 f fd ["self"] (sp_Inn_full K) := by
  refine g_def F sc_Inn_full (fun vs H Q E h => ?_) (fun cdv A outer s H vs Q E hr h => ⟨t_Inn_full K, PSs.nox ?_, ?_⟩)
  · obtain ⟨_, rfl, _⟩ := h
    rfl
  · exact (pss_cons (ps_set (i := 1) sc_Inn_full.nd rfl (Or.inl rfl) pe_dnewK)
  (pss_cons (ps_lock (ps_for PassesOwn.never rfl (pi_values (pe_fld (pv 0) rfl)) (pg_tup (by rfl) (pgs_cons (pg_name (i := 2) sc_Inn_full.nd rfl (Or.inl rfl)) (pgs_cons (pg_name (i := 3) sc_Inn_full.nd rfl (Or.inl rfl)) (pgs_cons (pg_name (i := 4) sc_Inn_full.nd rfl (Or.inl rfl)) pgs_nil)))) (pss_one (ps_for PassesOwn.never rfl (pi_list (Y.pe_c c_nights_of hr (by decide) rfl pass0 (pa_cons (pv 2) pa_nil))) (pg_name (i := 5) sc_Inn_full.nd rfl (Or.inl rfl)) (pss_one (ps_dput (hu_of hr.rm) (pv 1) (pv 5) (pe_op op_add (pe_dget2 (hu_of hr.rm) (pv 1) (pv 5) pe_int ⟨by rfl, by rfl, by rfl, by rfl⟩) pe_int) rfl))))))
  (pss_one (ps_ret (pe_callB cr_sortedI (by rfl) T.b_sorted (by decide +kernel) (pa_cons (pe_lock (pe_lc (own := [("night", 5), ("many", 6)]) (g := (gTup K 2 (gCons (gName 5) (gCons (gName 6) gNil)))) (tt := (tTest (tOp rEq (tVar 6) (tFld K (tVar 0) "many")))) rfl sc_Inn_full.nd (pi_items (pv 1)) (blkOk_by (own := [("night", 5), ("many", 6)]) (N := ["self", "stays", "stay", "coins", "cut", "night", "many"]) (sc := defScope s_Inn_full) (by decide +kernel)) (fun _ _ _ _ _ => (pg_tup (by rfl) (pgs_cons (pg_name (i := 5) sc_Inn_full.nd rfl (Or.inl rfl)) (pgs_cons (pg_name (i := 6) sc_Inn_full.nd rfl (Or.inl rfl)) pgs_nil)))) (fun _ _ _ _ _ => (pts_one (pt_cmpR op_eq (pv 6) (pe_fld (pv 0) rfl) (nomark _)))) (fun _ _ _ _ _ => (pv 5)))) pa_nil))))))
  · obtain ⟨_, rfl, _⟩ := id h
    exact pure_Inn_full h
theorem ok_Inn_standing (T : Txt K mg) {f : Addr} {fd : FuncData} (F : FunD K "standing" "Inn.standing" (defArgs s_Inn_standing) (defBody s_Inn_standing) (defScope s_Inn_standing) [] [] f fd)  : FnG P w K mg base CX0 1 f fd ["self"] (sp_Inn_standing K) := by
  refine g_def F sc_Inn_standing (fun vs H Q E h => ?_) (fun cdv A outer s H vs Q E hr h => ⟨t_Inn_standing K, PSs.nox ?_, ?_⟩)
  · obtain ⟨_, rfl, _⟩ := h
    rfl
  · exact (pss_one (ps_ret (pe_lc (own := [("number", 1), ("stay", 2), ("coins", 3), ("cut", 4)]) (g := (gTup K 2 (gCons (gName 1) (gCons (gTup K 3 (gCons (gName 2) (gCons (gName 3) (gCons (gName 4) gNil)))) gNil)))) (tt := tYes) rfl sc_Inn_standing.nd (pi_list (Y.pe_sortItems (by rfl) (by rfl) T.b_sorted (pe_fld (pv 0) rfl))) (blkOk_by (own := [("number", 1), ("stay", 2), ("coins", 3), ("cut", 4)]) (N := ["self", "number", "stay", "coins", "cut"]) (sc := defScope s_Inn_standing) (by decide +kernel)) (fun _ _ _ _ _ => (pg_tup (by rfl) (pgs_cons (pg_name (i := 1) sc_Inn_standing.nd rfl (Or.inl rfl)) (pgs_cons (pg_tup (by rfl) (pgs_cons (pg_name (i := 2) sc_Inn_standing.nd rfl (Or.inl rfl)) (pgs_cons (pg_name (i := 3) sc_Inn_standing.nd rfl (Or.inl rfl)) (pgs_cons (pg_name (i := 4) sc_Inn_standing.nd rfl (Or.inl rfl)) pgs_nil)))) pgs_nil)))) (fun _ _ _ _ _ => pts_nil) (fun _ _ _ _ _ => (pe_tup (pa_cons (pv 1) (pa_cons (pv 2) (pa_cons (pv 3) (pa_cons (pe_callTy call_list_of (by rfl) T.b_list (by decide +kernel) (pa_cons (pv 4) pa_nil)) pa_nil)))))))))
  · obtain ⟨_, rfl, _⟩ := id h
    exact pure_Inn_standing h
theorem ok_Lseen (T : Txt K mg) {f : Addr} {fd : FuncData} (F : FunD K "_law_seen" "_law_seen" (defArgs s_Lseen) (defBody s_Lseen) (defScope s_Lseen) [] [] f fd) (c_Inn_rules_of : Y.Met P w K mg base CX0 4 (He.ga K "Inn") "rules_of" (sp_Inn_rules_of K) []) (c_Inn_full : Y.Met P w K mg base CX0 2 (He.ga K "Inn") "full" (sp_Inn_full K) []) (c_Inn_standing : Y.Met P w K mg base CX0 1 (He.ga K "Inn") "standing" (sp_Inn_standing K) []) : FnG P w K mg base CX0 5 f fd ["_law_inn"] (sp_Lseen K) := by
  refine g_def F sc_Lseen (fun vs H Q E h => ?_) (fun cdv A outer s H vs Q E hr h => ⟨t_Lseen K, PSs.nox ?_, ?_⟩)
  · obtain ⟨_, rfl, _⟩ := h
    rfl
  · exact (pss_one (ps_ret (pe_tup (pa_cons (Y.pe_m0 c_Inn_standing hr (by decide) pass0 (pv 0)) (pa_cons (Y.pe_m0 c_Inn_full hr (by decide) pass0 (pv 0)) (pa_cons (Y.pe_m c_Inn_rules_of hr (by decide) pass0 (pv 0) (pa_cons pe_str pa_nil)) (pa_cons (Y.pe_m c_Inn_rules_of hr (by decide) pass0 (pv 0) (pa_cons pe_str pa_nil)) pa_nil)))))))
  · obtain ⟨_, rfl, _⟩ := id h
    exact pure_Lseen h
theorem ok_Lstay (T : Txt K mg) {f : Addr} {fd : FuncData} (F : FunD K "_law_stay" "_law_stay" (defArgs s_Lstay) (defBody s_Lstay) (defScope s_Lstay) [] [] f fd) (c_Ltake : Y.Cal P w K mg base CX0 1 "_law_take" (sp_Ltake K) []) : FnG P w K mg base CX0 2 f fd ["_law_row", "_law_day_here"] (sp_Lstay K) := by
  refine g_def F sc_Lstay (fun vs H Q E h => ?_) (fun cdv A outer s H vs Q E hr h => ⟨t_Lstay K, PSs.nox ?_, ?_⟩)
  · obtain ⟨_, _, rfl, _⟩ := h
    rfl
  · exact (pss_cons (ps_set (i := 2) sc_Lstay.nd rfl (Or.inl rfl) (pe_callB (call_min2 rfl) (by rfl) T.b_min (by decide +kernel) (pa_cons (pe_op op_sub (pe_op op_pow pe_int pe_int) pe_int) (pa_cons (pe_op op_add (pv 1) (Y.pe_c c_Ltake hr (by decide) rfl pass0 (pa_cons (pv 0) (pa_cons pe_int pa_nil)))) pa_nil))))
  (pss_cons (ps_set (i := 3) sc_Lstay.nd rfl (Or.inl rfl) (pe_op op_add pe_int (pe_ix ix_list (pe_lst (pa_cons (Y.pe_c c_Ltake hr (by decide) rfl pass0 (pa_cons (pv 0) (pa_cons pe_int pa_nil))) (pa_cons (Y.pe_c c_Ltake hr (by decide) rfl pass0 (pa_cons (pv 0) (pa_cons pe_int pa_nil))) pa_nil))) (pe_op op_fdivW (Y.pe_c c_Ltake hr (by decide) rfl pass0 (pa_cons (pv 0) (pa_cons pe_int pa_nil))) pe_int) (fun _ _ => rfl))))
  (pss_one (ps_ret (pe_tup (pa_cons (pv 2) (pa_cons (pe_callB (call_min2 rfl) (by rfl) T.b_min (by decide +kernel) (pa_cons (pe_op op_pow pe_int pe_int) (pa_cons (pe_op op_add (pv 2) (pv 3)) pa_nil))) pa_nil)))))))
  · obtain ⟨_, _, rfl, _⟩ := id h
    exact pure_Lstay h
theorem ok_Ldeed (T : Txt K mg) {f : Addr} {fd : FuncData} (F : FunD K "_law_deed" "_law_deed" (defArgs s_Ldeed) (defBody s_Ldeed) (defScope s_Ldeed) [] [] f fd) (c_Ltake : Y.Cal P w K mg base CX0 1 "_law_take" (sp_Ltake K) []) (c_Lstay : Y.Cal P w K mg base CX0 2 "_law_stay" (sp_Lstay K) []) (c_Lrule : Y.Cal P w K mg base CX0 4 "_law_rule" (sp_Lrule K) []) : FnG P w K mg base CX0 5 f fd ["_law_row", "_law_day_here", "_law_rules", "_law_taken"] (sp_Ldeed K) := by
  refine g_def F sc_Ldeed (fun vs H Q E h => ?_) (fun cdv A outer s H vs Q E hr h => ⟨t_Ldeed K, PSs.nox ?_, ?_⟩)
  · obtain ⟨_, _, _, _, rfl, _⟩ := h
    rfl
  · exact (pss_cons (ps_set (i := 4) sc_Ldeed.nd rfl (Or.inl rfl) (Y.pe_c c_Ltake hr (by decide) rfl pass0 (pa_cons (pv 0) (pa_cons pe_int pa_nil))))
  (pss_cons (ps_set (i := 5) sc_Ldeed.nd rfl (Or.inl rfl) (pe_ix ix_list (pe_lst (pa_cons pe_str (pa_cons pe_str (pa_cons pe_str (pa_cons pe_str pa_nil))))) (pe_ix ix_list (pe_lst (pa_cons (Y.pe_c c_Ltake hr (by decide) rfl pass0 (pa_cons (pv 0) (pa_cons pe_int pa_nil))) (pa_cons (Y.pe_c c_Ltake hr (by decide) rfl pass0 (pa_cons (pv 0) (pa_cons pe_int pa_nil))) pa_nil))) (pe_op op_fdivW (Y.pe_c c_Ltake hr (by decide) rfl pass0 (pa_cons (pv 0) (pa_cons pe_int pa_nil))) pe_int) (fun _ _ => rfl)) (fun _ _ => rfl)))
  (pss_cons (ps_if (pt_cmpR op_lt (pv 4) pe_int (nomark _)) (pss_one (ps_ret (pe_tup (pa_cons pe_str (pa_cons (Y.pe_c c_Lstay hr (by decide) rfl pass0 (pa_cons (pv 0) (pa_cons (pv 1) pa_nil))) pa_nil))))) pss_nil)
  (pss_cons (ps_if (pt_cmpR op_lt (pv 4) pe_int (nomark _)) (pss_cons (ps_set (i := 6) sc_Ldeed.nd rfl (Or.inl rfl) (pe_op op_cat (pe_callB cr_sortedI (by rfl) T.b_sorted (by decide +kernel) (pa_cons (pv 3) pa_nil)) (pe_lst (pa_cons (Y.pe_c c_Ltake hr (by decide) rfl pass0 (pa_cons (pv 0) (pa_cons pe_int pa_nil))) (pa_cons (pe_un un_neg pe_int) pa_nil)))))
  (pss_one (ps_ret (pe_tup (pa_cons pe_str (pa_cons (pe_ix ix_list (pv 6) (Y.pe_c c_Ltake hr (by decide) rfl pass0 (pa_cons (pv 0) (pa_cons (pe_callB call_len_seq (by rfl) T.b_len (by decide +kernel) (pa_cons (pv 6) pa_nil)) pa_nil))) (fun _ _ => rfl)) pa_nil)))))) pss_nil)
  (pss_cons (ps_if (pt_cmpR op_lt (pv 4) pe_int (nomark _)) (pss_cons (ps_set (i := 7) sc_Ldeed.nd rfl (Or.inl rfl) (pe_ix ix_list (pe_lst (pa_cons (Y.pe_c c_Ltake hr (by decide) rfl pass0 (pa_cons (pv 0) (pa_cons pe_int pa_nil))) (pa_cons (Y.pe_c c_Ltake hr (by decide) rfl pass0 (pa_cons (pv 0) (pa_cons pe_int pa_nil))) pa_nil))) (pe_op op_fdivW (Y.pe_c c_Ltake hr (by decide) rfl pass0 (pa_cons (pv 0) (pa_cons pe_int pa_nil))) pe_int) (fun _ _ => rfl)))
  (pss_cons (ps_setLc (i := 8) (own := [("_law_k", 10)]) (g := (gName 10)) (tt := tYes) rfl sc_Ldeed.nd rfl rfl (sw_true rfl rfl rfl (by decide +kernel)) (pi_range1 rfl T.b_range (pa_cons (pv 7) pa_nil)) (blkOk_by (own := [("_law_k", 10)]) (N := ["_law_row", "_law_day_here", "_law_rules", "_law_taken", "_law_way", "_law_name", "_law_numbers", "_law_many", "_law_some", "_law_bad", "_law_k"]) (sc := defScope s_Ldeed) (by decide +kernel)) (fun _ _ _ _ _ => (pg_name (i := 10) sc_Ldeed.nd rfl (Or.inl rfl))) (fun _ _ _ _ _ => pts_nil) (fun _ _ _ _ _ => (Y.pe_c c_Lrule hr (by decide) rfl pass0 (pa_cons (pv 0) (pa_cons (pv 1) pa_nil)))))
  (pss_cons (ps_set (i := 9) sc_Ldeed.nd rfl (Or.inl rfl) (pe_un un_neg pe_int))
  (pss_cons (ps_if (pt_cmpR op_eq (Y.pe_c c_Ltake hr (by decide) rfl pass0 (pa_cons (pv 0) (pa_cons pe_int pa_nil))) pe_int (nomark _)) (pss_cons (ps_set (i := 9) sc_Ldeed.nd rfl (Or.inl rfl) (Y.pe_c c_Ltake hr (by decide) rfl pass0 (pa_cons (pv 0) (pa_cons (pe_op op_add (pe_callB call_len_seq (by rfl) T.b_len (by decide +kernel) (pa_cons (pv 8) pa_nil)) pe_int) pa_nil))))
  (pss_one (ps_expr (pe_bm PySem.F.plainAttrs_list PySem.F.slot_list_insert PySem.F.type_list_insert mt_insert (pv 8) (pa_cons (pv 9) (pa_cons (pe_ix ix_list (pe_lst (pa_cons (pe_tup (pa_cons pe_str (pa_cons pe_int (pa_cons pe_int (pa_cons pe_int pa_nil))))) (pa_cons pe_non (pa_cons (pe_tup (pa_cons pe_str (pa_cons pe_int (pa_cons pe_int (pa_cons pe_bl pa_nil))))) pa_nil)))) (Y.pe_c c_Ltake hr (by decide) rfl pass0 (pa_cons (pv 0) (pa_cons pe_int pa_nil))) (fun _ _ => rfl)) pa_nil)))))) pss_nil)
  (pss_one (ps_ret (pe_tup (pa_cons pe_str (pa_cons (pv 5) (pa_cons (pv 8) (pa_cons (pv 9) pa_nil))))))))))) pss_nil)
  (pss_cons (ps_if (pt_cmpR op_eq (pv 4) pe_int (nomark _)) (pss_one (ps_ret (pe_tup (pa_cons pe_str (pa_cons (pv 5) pa_nil))))) pss_nil)
  (pss_one (ps_ret (pe_tup (pa_cons pe_str pa_nil))))))))))
  · obtain ⟨_, _, _, _, rfl, _⟩ := id h
    exact pure_Ldeed h
theorem ok_Rule_tells (T : Txt K mg) {f : Addr} {fd : FuncData} (F : FunD K "tells" "Rule.tells" (defArgs s_Rule_tells) (defBody s_Rule_tells) (defScope s_Rule_tells) [] [] f fd)  : FnG P w K mg base CX0 1 f fd ["self", "day"] (sp_Rule_tells K) := by
  refine g_def F sc_Rule_tells (fun vs H Q E h => ?_) (fun cdv A outer s H vs Q E hr h => ⟨t_Rule_tells K, PSs.nox ?_, ?_⟩)
  · obtain ⟨_, _, rfl, _⟩ := h
    rfl
  · exact (pss_one (ps_ret (pe_chain op_le op_le (pe_fld (pv 0) rfl) (pv 1) (pe_fld (pv 0) rfl))))
  · obtain ⟨_, _, rfl, _⟩ := id h
    exact pure_Rule_tells h
theorem ok_usual (T : Txt K mg) {f : Addr} {fd : FuncData} (F : FunD K "usual" "usual" (defArgs s_usual) (defBody s_usual) (defScope s_usual) [] [] f fd)  : FnG P w K mg base CX0 1 f fd ["word"] (sp_usual K) := by
  refine g_def F sc_usual (fun vs H Q E h => ?_) (fun cdv A outer s H vs Q E hr h => ⟨t_usual K, PSs.nox ?_, ?_⟩)
  · obtain ⟨_, rfl, _⟩ := h
    rfl
  · exact (pss_cons (ps_if (PW.pt (pw_or (pt_cmpR op_eq (pv 0) pe_str (nomark _)) (pw_or1 (pt_cmpR op_eq (pv 0) pe_str (nomark _))))) (pss_one (ps_ret pe_bl)) pss_nil)
  (pss_cons (ps_if (pt_cmpR op_eq (pv 0) pe_str (nomark _)) (pss_one (ps_ret pe_int)) pss_nil)
  (pss_cons (ps_if (pt_cmpR op_eq (pv 0) pe_str (nomark _)) (pss_one (ps_ret (pe_glob rfl T.c_MOST_NIGHTS.choose_spec.1 T.c_MOST_NIGHTS.choose_spec.2))) pss_nil)
  (pss_cons (ps_if (pt_cmpR op_eq (pv 0) pe_str (nomark _)) (pss_one (ps_ret pe_int)) pss_nil)
  (pss_one (ps_ret pe_non))))))
  · obtain ⟨_, rfl, _⟩ := id h
    exact pure_usual h
theorem ok_Book_tells_of (T : Txt K mg) {f : Addr} {fd : FuncData} (F : FunD K "tells_of" "Book.tells_of" (defArgs s_Book_tells_of) (defBody s_Book_tells_of) (defScope s_Book_tells_of) [] [] f fd) (c_Price_tells : Y.Met P w K mg base CX0 1 (He.ga K "Price") "tells" (sp_Rule_tells K) []) (c_Come_tells : Y.Met P w K mg base CX0 1 (He.ga K "Come") "tells" (sp_Rule_tells K) []) (c_Go_tells : Y.Met P w K mg base CX0 1 (He.ga K "Go") "tells" (sp_Rule_tells K) []) (c_Least_tells : Y.Met P w K mg base CX0 1 (He.ga K "Least") "tells" (sp_Rule_tells K) []) (c_Most_tells : Y.Met P w K mg base CX0 1 (He.ga K "Most") "tells" (sp_Rule_tells K) []) (c_Deal_tells : Y.Met P w K mg base CX0 1 (He.ga K "Deal") "tells" (sp_Rule_tells K) []) (c_Fee_tells : Y.Met P w K mg base CX0 1 (He.ga K "Fee") "tells" (sp_Rule_tells K) []) (c_usual : Y.Cal P w K mg base CX0 1 "usual" (sp_usual K) []) : FnG P w K mg base CX0 2 f fd ["self", "word", "day"] (sp_Book_tells_of K) := by
  refine g_def F sc_Book_tells_of (fun vs H Q E h => ?_) (fun cdv A outer s H vs Q E hr h => ⟨t_Book_tells_of K, PSs.nox ?_, ?_⟩)
  · obtain ⟨_, _, _, rfl, _⟩ := h
    rfl
  · exact (pss_cons (ps_for PassesOwn.never rfl (pi_list (pe_dget2 (hu_of hr.rm) (pe_fld (pv 0) rfl) (pv 1) (pe_lst pa_nil) ⟨by rfl, by rfl, by rfl, by rfl⟩)) (pg_name (i := 3) sc_Book_tells_of.nd rfl (Or.inl rfl)) (pss_one (ps_if (pt_val (Y.pe_rule fun w => match w with | .price => Y.pe_m c_Price_tells hr (by decide) pass0 (pv 3) (pa_cons (pv 2) pa_nil) | .come => Y.pe_m c_Come_tells hr (by decide) pass0 (pv 3) (pa_cons (pv 2) pa_nil) | .go => Y.pe_m c_Go_tells hr (by decide) pass0 (pv 3) (pa_cons (pv 2) pa_nil) | .least => Y.pe_m c_Least_tells hr (by decide) pass0 (pv 3) (pa_cons (pv 2) pa_nil) | .most => Y.pe_m c_Most_tells hr (by decide) pass0 (pv 3) (pa_cons (pv 2) pa_nil) | .deal => Y.pe_m c_Deal_tells hr (by decide) pass0 (pv 3) (pa_cons (pv 2) pa_nil) | .fee => Y.pe_m c_Fee_tells hr (by decide) pass0 (pv 3) (pa_cons (pv 2) pa_nil))) (pss_one (ps_ret (pe_fld (pv 3) rfl))) pss_nil)))
  (pss_one (ps_ret (Y.pe_c c_usual hr (by decide) rfl pass0 (pa_cons (pv 1) pa_nil)))))
  · obtain ⟨_, _, _, rfl, _⟩ := id h
    exact pure_Book_tells_of h
theorem ok_FullBook_tells_of (T : Txt K mg) {f : Addr} {fd : FuncData} (F : FunD K "tells_of" "FullBook.tells_of" (defArgs s_FullBook_tells_of) (defBody s_FullBook_tells_of) (defScope s_FullBook_tells_of) [] [] f fd) (c_Book_tells_of : Y.Met P w K mg base CX0 2 (He.ga K "Book") "tells_of" (sp_Book_tells_of K) []) : FnG P w K mg base CX0 3 f fd ["self", "word", "day"] (sp_FullBook_tells_of K) := by
  refine g_def F sc_FullBook_tells_of (fun vs H Q E h => ?_) (fun cdv A outer s H vs Q E hr h => ⟨t_FullBook_tells_of K, PSs.nox ?_, ?_⟩)
  · obtain ⟨_, _, _, rfl, _⟩ := h
    rfl
  · exact (pss_cons (ps_if (PW.pt (pw_and (pt_cmpR op_eq (pv 1) pe_str (nomark _)) (pw_and1 (pt_cmp (pc_din (hu_of hr.rm) (pv 2) (pe_fld (pv 0) rfl)))))) (pss_one (ps_ret pe_non)) pss_nil)
  (pss_one (ps_ret (Y.pe_m c_Book_tells_of hr (by decide) pass0 (pe_fld (pv 0) rfl) (pa_cons (pv 1) (pa_cons (pv 2) pa_nil))))))
  · obtain ⟨_, _, _, rfl, _⟩ := id h
    exact pure_FullBook_tells_of h
theorem ok_can_be_had (T : Txt K mg) {f : Addr} {fd : FuncData} (F : FunD K "can_be_had" "can_be_had" (defArgs s_can_be_had) (defBody s_can_be_had) (defScope s_can_be_had) [] [] f fd) (c_Book_tells_of : Y.Met P w K mg base CX0 2 (He.ga K "Book") "tells_of" (sp_Book_tells_of K) []) (c_FullBook_tells_of : Y.Met P w K mg base CX0 3 (He.ga K "FullBook") "tells_of" (sp_FullBook_tells_of K) []) (c_nights_of : Y.Cal P w K mg base CX0 1 "nights_of" (sp_nights_of K) []) : FnG P w K mg base CX0 4 f fd ["book", "stay"] (sp_can_be_had K) := by
  refine g_def F sc_can_be_had (fun vs H Q E h => ?_) (fun cdv A outer s H vs Q E hr h => ⟨t_can_be_had K, PSs.nox ?_, ?_⟩)
  · obtain ⟨_, _, rfl, _⟩ := h
    rfl
  · exact (pss_cons (ps_asg (pv 1) (pg_tup (by rfl) (pgs_cons (pg_name (i := 2) sc_can_be_had.nd rfl (Or.inl rfl)) (pgs_cons (pg_name (i := 3) sc_can_be_had.nd rfl (Or.inl rfl)) pgs_nil))))
  (pss_cons (ps_if (pt_not (pt_chain op_le op_le (Y.pe_any c_Book_tells_of c_FullBook_tells_of hr (by decide) (by decide) pass0 (pv 0) (pa_cons pe_str (pa_cons (pv 2) pa_nil))) (pe_op op_sub (pv 3) (pv 2)) (Y.pe_any c_Book_tells_of c_FullBook_tells_of hr (by decide) (by decide) pass0 (pv 0) (pa_cons pe_str (pa_cons (pv 2) pa_nil))))) (pss_one (ps_ret pe_bl)) pss_nil)
  (pss_cons (ps_if (PW.pt (pw_or (pt_not (pt_truth (Y.pe_any c_Book_tells_of c_FullBook_tells_of hr (by decide) (by decide) pass0 (pv 0) (pa_cons pe_str (pa_cons (pv 2) pa_nil))) (by intro _; rfl))) (pw_or1 (pt_not (pt_truth (Y.pe_any c_Book_tells_of c_FullBook_tells_of hr (by decide) (by decide) pass0 (pv 0) (pa_cons pe_str (pa_cons (pv 3) pa_nil))) (by intro _; rfl)))))) (pss_one (ps_ret pe_bl)) pss_nil)
  (pss_cons (ps_for PassesOwn.never rfl (pi_list (Y.pe_c c_nights_of hr (by decide) rfl pass0 (pa_cons (pv 1) pa_nil))) (pg_name (i := 4) sc_can_be_had.nd rfl (Or.inl rfl)) (pss_one (ps_if (pt_cmpR op_isN (Y.pe_any c_Book_tells_of c_FullBook_tells_of hr (by decide) (by decide) pass0 (pv 0) (pa_cons pe_str (pa_cons (pv 4) pa_nil))) pe_non (nomark _)) (pss_one (ps_ret pe_bl)) pss_nil)))
  (pss_one (ps_ret pe_bl))))))
  · obtain ⟨_, _, rfl, _⟩ := id h
    exact pure_can_be_had h
theorem ok_marked (T : Txt K mg) {f : Addr} {fd : FuncData} (F : FunD K "marked" "marked" (defArgs s_marked) (defBody s_marked) (defScope s_marked) [] [] f fd)  : FnG P w K mg base CX0 1 f fd ["prices", "deal"] (sp_marked K) := by
  refine g_def F sc_marked (fun vs H Q E h => ?_) (fun cdv A outer s H vs Q E hr h => ⟨t_marked K, PSs.nox ?_, ?_⟩)
  · obtain ⟨_, _, rfl, _⟩ := h
    rfl
  · exact (pss_cons (ps_setLc (i := 3) (own := [("price", 2)]) (g := (gName 2)) (tt := tYes) rfl sc_marked.nd rfl rfl (sw_true rfl rfl rfl (by decide +kernel)) (pi_list (pv 0)) (blkOk_by (own := [("price", 2)]) (N := ["prices", "deal", "price", "found", "many", "free", "begin", "bundle", "back", "at"]) (sc := defScope s_marked) (by decide +kernel)) (fun _ _ _ _ _ => (pg_name (i := 2) sc_marked.nd rfl (Or.inl rfl))) (fun _ _ _ _ _ => pts_nil) (fun _ _ _ _ _ => pe_bl))
  (pss_cons (ps_if (pt_cmpR op_isN (pv 1) pe_non (nomark _)) (pss_one (ps_ret (pv 3))) pss_nil)
  (pss_cons (ps_asg (pv 1) (pg_tup (by rfl) (pgs_cons (pg_name (i := 4) sc_marked.nd rfl (Or.inl rfl)) (pgs_cons (pg_name (i := 5) sc_marked.nd rfl (Or.inl rfl)) pgs_nil))))
  (pss_cons (ps_for PassesOwn.never rfl (pi_range3 rfl T.b_range (pa_cons pe_int (pa_cons (pe_op op_add (pe_op op_sub (pe_callB call_len_seq (by rfl) T.b_len (by decide +kernel) (pa_cons (pv 0) pa_nil)) (pv 4)) pe_int) (pa_cons (pv 4) pa_nil)))) (pg_name (i := 6) sc_marked.nd rfl (Or.inl rfl)) (pss_cons (ps_set (i := 7) sc_marked.nd rfl (Or.inl rfl) (pe_callB cr_sortedPO (by rfl) T.b_sorted (by decide +kernel) (pa_cons (pe_lc (own := [("at", 9)]) (g := (gName 9)) (tt := tYes) rfl sc_marked.nd (pi_range2 rfl T.b_range (pa_cons (pv 6) (pa_cons (pe_op op_add (pv 6) (pv 4)) pa_nil))) (blkOk_by (own := [("at", 9)]) (N := ["prices", "deal", "price", "found", "many", "free", "begin", "bundle", "back", "at"]) (sc := defScope s_marked) (by decide +kernel)) (fun _ _ _ _ _ => (pg_name (i := 9) sc_marked.nd rfl (Or.inl rfl))) (fun _ _ _ _ _ => pts_nil) (fun _ _ _ _ _ => (pe_tup (pa_cons (pe_ix ix_list (pv 0) (pv 9) (fun _ _ => rfl)) (pa_cons (pe_op op_sub (pe_callB call_len_seq (by rfl) T.b_len (by decide +kernel) (pa_cons (pv 0) pa_nil)) (pv 9)) pa_nil))))) pa_nil)))
  (pss_one (ps_for PassesOwn.never rfl (pi_list (pe_slice sl_list (pv 7) po_none (po_some (pv 5)))) (pg_tup (by rfl) (pgs_cons (pg_name (i := 2) sc_marked.nd rfl (Or.inl rfl)) (pgs_cons (pg_name (i := 8) sc_marked.nd rfl (Or.inl rfl)) pgs_nil))) (pss_one (ps_asg pe_bl (pg_sub (pv 3) (pe_op op_sub (pe_callB call_len_seq (by rfl) T.b_len (by decide +kernel) (pa_cons (pv 0) pa_nil)) (pv 8)) set_list)))))))
  (pss_one (ps_ret (pv 3)))))))
  · obtain ⟨_, _, rfl, _⟩ := id h
    exact pure_marked h
theorem ok_bill (T : Txt K mg) {f : Addr} {fd : FuncData} (F : FunD K "bill" "bill" (defArgs s_bill) (defBody s_bill) (defScope s_bill) [] [] f fd) (c_nights_of : Y.Cal P w K mg base CX0 1 "nights_of" (sp_nights_of K) []) (c_Book_tells_of : Y.Met P w K mg base CX0 2 (He.ga K "Book") "tells_of" (sp_Book_tells_of K) []) (c_FullBook_tells_of : Y.Met P w K mg base CX0 3 (He.ga K "FullBook") "tells_of" (sp_FullBook_tells_of K) []) (c_marked : Y.Cal P w K mg base CX0 1 "marked" (sp_marked K) []) : FnG P w K mg base CX0 4 f fd ["book", "stay"] (sp_bill K) := by
  refine g_def F sc_bill (fun vs H Q E h => ?_) (fun cdv A outer s H vs Q E hr h => ⟨t_bill K, PSs.nox ?_, ?_⟩)
  · obtain ⟨_, _, rfl, _⟩ := h
    rfl
  · exact (pss_cons (ps_set (i := 2) sc_bill.nd rfl (Or.inr rfl) (Y.pe_c c_nights_of hr (by decide) rfl pass0 (pa_cons (pv 1) pa_nil)))
  (pss_cons (ps_set (i := 3) sc_bill.nd rfl (Or.inr rfl) (pe_lc (own := [("night", 7)]) (g := (gName 7)) (tt := tYes) rfl sc_bill.nd (pi_list (pv 2)) (blkOk_by (own := [("night", 7)]) (N := ["book", "stay", "nights", "prices", "marks", "fee", "rows", "night", "k", "coins", "free"]) (sc := defScope s_bill) (by decide +kernel)) (fun _ _ _ _ _ => (pg_name (i := 7) sc_bill.nd rfl (Or.inl rfl))) (fun _ _ _ _ _ => pts_nil) (fun _ _ _ _ _ => (Y.pe_any c_Book_tells_of c_FullBook_tells_of hr (by decide) (by decide) pass0 (pv 0) (pa_cons pe_str (pa_cons (pv 7) pa_nil))))))
  (pss_cons (ps_if (pt_cmpR op_in_seq pe_non (pv 3) (by rfl)) (pss_one Y.ps_never) pss_nil)
  (pss_cons (ps_set (i := 4) sc_bill.nd rfl (Or.inr rfl) (Y.pe_c c_marked hr (by decide) rfl pass0 (pa_cons (pv 3) (pa_cons (Y.pe_any c_Book_tells_of c_FullBook_tells_of hr (by decide) (by decide) pass0 (pv 0) (pa_cons pe_str (pa_cons (pe_ix ix_tup (pv 1) pe_int (fun _ _ => rfl)) pa_nil))) pa_nil))))
  (pss_cons (ps_set (i := 5) sc_bill.nd rfl (Or.inl rfl) (Y.pe_any c_Book_tells_of c_FullBook_tells_of hr (by decide) (by decide) pass0 (pv 0) (pa_cons pe_str (pa_cons (pe_ix ix_tup (pv 1) pe_int (fun _ _ => rfl)) pa_nil))))
  (pss_cons (ps_setLc (i := 6) (own := [("k", 8)]) (g := (gName 8)) (tt := tYes) rfl sc_bill.nd rfl rfl (sw_true rfl rfl rfl (by decide +kernel)) (pi_range1 rfl T.b_range (pa_cons (pe_callB call_len_seq (by rfl) T.b_len (by decide +kernel) (pa_cons (pv 2) pa_nil)) pa_nil)) (blkOk_by (own := [("k", 8)]) (N := ["book", "stay", "nights", "prices", "marks", "fee", "rows", "night", "k", "coins", "free"]) (sc := defScope s_bill) (by decide +kernel)) (fun _ _ _ _ _ => (pg_name (i := 8) sc_bill.nd rfl (Or.inl rfl))) (fun _ _ _ _ _ => pts_nil) (fun _ _ _ _ _ => (pe_tup (pa_cons (pe_ix ix_list (pv 2) (pv 8) (fun _ _ => rfl)) (pa_cons (pe_ix ix_list (pv 3) (pv 8) (fun _ _ => rfl)) (pa_cons (pe_ix ix_list (pv 4) (pv 8) (fun _ _ => rfl)) pa_nil))))))
  (pss_one (ps_ret (pe_tup (pa_cons (pe_op op_add (pv 5) (pe_callB (cr_sum rfl) (by rfl) T.b_sum (by decide +kernel) (pa_cons (pe_lc (own := [("night", 7), ("coins", 9), ("free", 10)]) (g := (gTup K 3 (gCons (gName 7) (gCons (gName 9) (gCons (gName 10) gNil))))) (tt := (tNot (tB (tVar 10)))) rfl sc_bill.nd (pi_list (pv 6)) (blkOk_by (own := [("night", 7), ("coins", 9), ("free", 10)]) (N := ["book", "stay", "nights", "prices", "marks", "fee", "rows", "night", "k", "coins", "free"]) (sc := defScope s_bill) (by decide +kernel)) (fun _ _ _ _ _ => (pg_tup (by rfl) (pgs_cons (pg_name (i := 7) sc_bill.nd rfl (Or.inl rfl)) (pgs_cons (pg_name (i := 9) sc_bill.nd rfl (Or.inl rfl)) (pgs_cons (pg_name (i := 10) sc_bill.nd rfl (Or.inl rfl)) pgs_nil))))) (fun _ _ _ _ _ => (pts_one (pt_not (pt_val (pv 10))))) (fun _ _ _ _ _ => (pv 9))) pa_nil))) (pa_cons (pv 6) (pa_cons (pv 5) pa_nil))))))))))))
  · obtain ⟨_, _, rfl, _⟩ := id h
    exact pure_bill h
theorem ok_coins_of (T : Txt K mg) {f : Addr} {fd : FuncData} (F : FunD K "coins_of" "coins_of" (defArgs s_coins_of) (defBody s_coins_of) (defScope s_coins_of) [] [] f fd) (c_can_be_had : Y.Cal P w K mg base CX0 4 "can_be_had" (sp_can_be_had K) []) (c_bill : Y.Cal P w K mg base CX0 4 "bill" (sp_bill K) []) : FnG P w K mg base CX0 5 f fd ["book", "stay"] (sp_coins_of K) := by
  refine g_def F sc_coins_of (fun vs H Q E h => ?_) (fun cdv A outer s H vs Q E hr h => ⟨t_coins_of K, PSs.nox ?_, ?_⟩)
  · obtain ⟨_, _, rfl, _⟩ := h
    rfl
  · exact (pss_cons (ps_if (pt_not (pt_val (Y.pe_c c_can_be_had hr (by decide) rfl pass0 (pa_cons (pv 0) (pa_cons (pv 1) pa_nil))))) (pss_one (ps_ret pe_non)) pss_nil)
  (pss_one (ps_ret (pe_ix ix_tup (Y.pe_c c_bill hr (by decide) rfl pass0 (pa_cons (pv 0) (pa_cons (pv 1) pa_nil))) pe_int (fun _ _ => rfl)))))
  · obtain ⟨_, _, rfl, _⟩ := id h
    exact pure_coins_of h
theorem ok_parts_from (T : Txt K mg) {f : Addr} {fd : FuncData} (F : FunD K "parts_from" "parts_from" (defArgs s_parts_from) (defBody s_parts_from) (defScope s_parts_from) [] [] f fd) (c_coins_of : Y.Cal P w K mg base CX0 5 "coins_of" (sp_coins_of K) []) : FnG P w K mg base CX0 6 f fd ["books", "stay", "day"] (sp_parts_from K) := by
  refine g_def F sc_parts_from (fun vs H Q E h => ?_) (fun cdv A outer s H vs Q E hr h => ⟨t_parts_from K, PSs.nox ?_, ?_⟩)
  · obtain ⟨_, _, _, rfl, _⟩ := h
    rfl
  · exact (pss_cons (ps_set (i := 3) sc_parts_from.nd rfl (Or.inl rfl) (pe_lst pa_nil))
  (pss_cons (ps_for PassesOwn.never rfl (pi_enum (by rfl) T.b_enumerate (pa_cons (pv 0) pa_nil)) (pg_tup (by rfl) (pgs_cons (pg_name (i := 4) sc_parts_from.nd rfl (Or.inl rfl)) (pgs_cons (pg_name (i := 5) sc_parts_from.nd rfl (Or.inl rfl)) pgs_nil))) (pss_one (ps_for PassesOwn.never rfl (pi_range2 rfl T.b_range (pa_cons (pe_op op_add (pv 2) pe_int) (pa_cons (pe_op op_add (pe_ix ix_tup (pv 1) pe_int (fun _ _ => rfl)) pe_int) pa_nil))) (pg_name (i := 6) sc_parts_from.nd rfl (Or.inl rfl)) (pss_cons (ps_set (i := 7) sc_parts_from.nd rfl (Or.inl rfl) (Y.pe_c c_coins_of hr (by decide) rfl pass0 (pa_cons (pv 5) (pa_cons (pe_tup (pa_cons (pv 2) (pa_cons (pv 6) pa_nil))) pa_nil))))
  (pss_one (ps_if (pt_cmpR op_notN (pv 7) pe_non (nomark _)) (pss_one (ps_expr (pe_bm PySem.F.plainAttrs_list PySem.F.slot_list_append PySem.F.type_list_append mt_append (pv 3) (pa_cons (pe_tup (pa_cons (pv 7) (pa_cons (pe_tup (pa_cons (pv 2) (pa_cons (pv 6) (pa_cons (pv 4) pa_nil)))) pa_nil))) pa_nil)))) pss_nil))))))
  (pss_one (ps_ret (pv 3)))))
  · obtain ⟨_, _, _, rfl, _⟩ := id h
    exact pure_parts_from h
theorem ok_ways (T : Txt K mg) {f : Addr} {fd : FuncData} (F : FunD K "ways" "ways" (defArgs s_ways) (defBody s_ways) (defScope s_ways) [] [] f fd) (c_parts_from : Y.Cal P w K mg base CX0 6 "parts_from" (sp_parts_from K) []) : FnG P w K mg base CX0 7 f fd ["books", "stay"] (sp_ways K) := by
  refine g_def F sc_ways (fun vs H Q E h => ?_) (fun cdv A outer s H vs Q E hr h => ⟨t_ways K, PSs.nox ?_, ?_⟩)
  · obtain ⟨_, _, rfl, _⟩ := h
    rfl
  · exact (pss_cons (ps_set (i := 2) sc_ways.nd rfl (Or.inl rfl) (pe_disp (pps_cons (pe_ix ix_tup (pv 1) pe_int (fun _ _ => rfl)) (pe_tup (pa_cons pe_int (pa_cons pe_non pa_nil))) pps_nil) rfl rfl (by simp) (by simp)))
  (pss_cons (ps_for PassesOwn.never rfl (pi_range2 rfl T.b_range (pa_cons (pe_ix ix_tup (pv 1) pe_int (fun _ _ => rfl)) (pa_cons (pe_ix ix_tup (pv 1) pe_int (fun _ _ => rfl)) pa_nil))) (pg_name (i := 3) sc_ways.nd rfl (Or.inl rfl)) (pss_one (ps_if (pt_cmp (pc_din (hu_of hr.rm) (pv 3) (pv 2))) (pss_one (ps_for PassesOwn.never rfl (pi_list (Y.pe_c c_parts_from hr (by decide) rfl pass0 (pa_cons (pv 0) (pa_cons (pv 1) (pa_cons (pv 3) pa_nil))))) (pg_tup (by rfl) (pgs_cons (pg_name (i := 4) sc_ways.nd rfl (Or.inl rfl)) (pgs_cons (pg_name (i := 5) sc_ways.nd rfl (Or.inl rfl)) pgs_nil))) (pss_cons (ps_set (i := 6) sc_ways.nd rfl (Or.inl rfl) (pe_op op_add (pe_ix ix_tup (pe_dget (hu_of hr.rm) (pv 2) (pv 3) (fun _ _ => rfl)) pe_int (fun _ _ => rfl)) (pv 4)))
  (pss_one (ps_if (PW.pt (pw_or (pt_cmp (pc_dnotin (hu_of hr.rm) (pe_ix ix_tup (pv 5) pe_int (fun _ _ => rfl)) (pv 2))) (pw_or1 (pt_cmpR op_lt (pv 6) (pe_ix ix_tup (pe_dget (hu_of hr.rm) (pv 2) (pe_ix ix_tup (pv 5) pe_int (fun _ _ => rfl)) (fun _ _ => rfl)) pe_int (fun _ _ => rfl)) (nomark _))))) (pss_one (ps_dput (hu_of hr.rm) (pv 2) (pe_ix ix_tup (pv 5) pe_int (fun _ _ => rfl)) (pe_tup (pa_cons (pv 6) (pa_cons (pv 5) pa_nil))) rfl)) pss_nil))))) pss_nil)))
  (pss_one (ps_ret (pv 2)))))
  · obtain ⟨_, _, rfl, _⟩ := id h
    exact pure_ways h
theorem ok_paper_by (T : Txt K mg) {f : Addr} {fd : FuncData} (F : FunD K "paper_by" "paper_by" (defArgs s_paper_by) (defBody s_paper_by) (defScope s_paper_by) [] [] f fd)  : FnG P w K mg base CX0 1 f fd ["found", "stay"] (sp_paper_by K) := by
  refine g_def F sc_paper_by (fun vs H Q E h => ?_) (fun cdv A outer s H vs Q E hr h => ⟨t_paper_by K, PSs.nox ?_, ?_⟩)
  · obtain ⟨_, _, rfl, _⟩ := h
    rfl
  · exact (pss_cons (ps_set (i := 2) sc_paper_by.nd rfl (Or.inr rfl) (pe_callB (cr_max rfl) (by rfl) T.b_max (by decide +kernel) (pa_cons (pe_lock (pe_lc (own := [("coins", 6), ("part", 7)]) (g := (gTup K 2 (gCons (gName 6) (gCons (gName 7) gNil)))) (tt := tYes) rfl sc_paper_by.nd (pi_values (pv 0)) (blkOk_by (own := [("coins", 6), ("part", 7)]) (N := ["found", "stay", "most", "heights", "day", "k", "coins", "part"]) (sc := defScope s_paper_by) (by decide +kernel)) (fun _ _ _ _ _ => (pg_tup (by rfl) (pgs_cons (pg_name (i := 6) sc_paper_by.nd rfl (Or.inl rfl)) (pgs_cons (pg_name (i := 7) sc_paper_by.nd rfl (Or.inl rfl)) pgs_nil)))) (fun _ _ _ _ _ => pts_nil) (fun _ _ _ _ _ => (pv 6)))) pa_nil)))
  (pss_cons (ps_set (i := 3) sc_paper_by.nd rfl (Or.inr rfl) (pe_lc (own := [("day", 4)]) (g := (gName 4)) (tt := tYes) rfl sc_paper_by.nd (pi_range2 rfl T.b_range (pa_cons (pe_ix ix_tup (pv 1) pe_int (fun _ _ => rfl)) (pa_cons (pe_op op_add (pe_ix ix_tup (pv 1) pe_int (fun _ _ => rfl)) pe_int) pa_nil))) (blkOk_by (own := [("day", 4)]) (N := ["found", "stay", "most", "heights", "day", "k", "coins", "part"]) (sc := defScope s_paper_by) (by decide +kernel)) (fun _ _ _ _ _ => (pg_name (i := 4) sc_paper_by.nd rfl (Or.inl rfl))) (fun _ _ _ _ _ => pts_nil) (fun _ _ _ _ _ => (pe_ifExp (pt_cmp (pc_din (hu_of hr.rm) (pv 4) (pv 0))) (pe_ix ix_tup (pe_dget (hu_of hr.rm) (pv 0) (pv 4) (fun _ _ => rfl)) pe_int (fun _ _ => rfl)) (pv 2)))))
  (pss_one (ps_ret (pe_lc (own := [("k", 5)]) (g := (gName 5)) (tt := tYes) rfl sc_paper_by.nd (pi_range1 rfl T.b_range (pa_cons (pe_op op_sub (pe_callB call_len_seq (by rfl) T.b_len (by decide +kernel) (pa_cons (pv 3) pa_nil)) pe_int) pa_nil)) (blkOk_by (own := [("k", 5)]) (N := ["found", "stay", "most", "heights", "day", "k", "coins", "part"]) (sc := defScope s_paper_by) (by decide +kernel)) (fun _ _ _ _ _ => (pg_name (i := 5) sc_paper_by.nd rfl (Or.inl rfl))) (fun _ _ _ _ _ => pts_nil) (fun _ _ _ _ _ => (pe_op op_sub (pe_ix ix_list (pv 3) (pe_op op_add (pv 5) pe_int) (fun _ _ => rfl)) (pe_ix ix_list (pv 3) (pv 5) (fun _ _ => rfl)))))))))
  · obtain ⟨_, _, rfl, _⟩ := id h
    exact pure_paper_by h
theorem ok_cut_by (T : Txt K mg) {f : Addr} {fd : FuncData} (F : FunD K "cut_by" "cut_by" (defArgs s_cut_by) (defBody s_cut_by) (defScope s_cut_by) [] [] f fd)  : FnG P w K mg base CX0 1 f fd ["found", "go"] (sp_cut_by K) := by
  refine g_def F sc_cut_by (fun vs H Q E h => ?_) (fun cdv A outer s H vs Q E hr h => ⟨t_cut_by K, PSs.nox ?_, ?_⟩)
  · obtain ⟨_, _, rfl, _⟩ := h
    rfl
  · exact (pss_cons (ps_set (i := 2) sc_cut_by.nd rfl (Or.inl rfl) (pe_lst pa_nil))
  (pss_cons (ps_set (i := 3) sc_cut_by.nd rfl (Or.inl rfl) (pe_ix ix_tup (pe_dget (hu_of hr.rm) (pv 0) (pv 1) (fun _ _ => rfl)) pe_int (fun _ _ => rfl)))
  (pss_cons (ps_while PassesOwn.never (pt_cmpR op_notN (pv 3) pe_non (nomark _)) (pss_cons (ps_expr (pe_bm PySem.F.plainAttrs_list PySem.F.slot_list_insert PySem.F.type_list_insert mt_insert (pv 2) (pa_cons pe_int (pa_cons (pv 3) pa_nil))))
  (pss_one (ps_set (i := 3) sc_cut_by.nd rfl (Or.inl rfl) (pe_ix ix_tup (pe_dget (hu_of hr.rm) (pv 0) (pe_ix ix_tup (pv 3) pe_int (fun _ _ => rfl)) (fun _ _ => rfl)) pe_int (fun _ _ => rfl))))))
  (pss_one (ps_ret (pv 2))))))
  · obtain ⟨_, _, rfl, _⟩ := id h
    exact pure_cut_by h
theorem ok_best (T : Txt K mg) {f : Addr} {fd : FuncData} (F : FunD K "best" "best" (defArgs s_best) (defBody s_best) (defScope s_best) [] [] f fd) (c_ways : Y.Cal P w K mg base CX0 7 "ways" (sp_ways K) []) (c_paper_by : Y.Cal P w K mg base CX0 1 "paper_by" (sp_paper_by K) []) (c_cut_by : Y.Cal P w K mg base CX0 1 "cut_by" (sp_cut_by K) []) : FnG P w K mg base CX0 8 f fd ["books", "stay"] (sp_best K) := by
  refine g_def F sc_best (fun vs H Q E h => ?_) (fun cdv A outer s H vs Q E hr h => ⟨t_best K, PSs.nox ?_, ?_⟩)
  · obtain ⟨_, _, rfl, _⟩ := h
    rfl
  · exact (pss_cons (ps_set (i := 2) sc_best.nd rfl (Or.inl rfl) (Y.pe_c c_ways hr (by decide) rfl pass0 (pa_cons (pv 0) (pa_cons (pv 1) pa_nil))))
  (pss_cons (ps_if (pt_cmp (pc_dnotin (hu_of hr.rm) (pe_ix ix_tup (pv 1) pe_int (fun _ _ => rfl)) (pv 2))) (pss_one (ps_ret (pe_tup (pa_cons pe_str (pa_cons (pe_callB (Y.cr_sortDI rfl) (by rfl) T.b_sorted (by decide +kernel) (pa_cons (pv 2) pa_nil)) pa_nil))))) pss_nil)
  (pss_one (ps_ret (pe_tup (pa_cons pe_str (pa_cons (pe_ix ix_tup (pe_dget (hu_of hr.rm) (pv 2) (pe_ix ix_tup (pv 1) pe_int (fun _ _ => rfl)) (fun _ _ => rfl)) pe_int (fun _ _ => rfl)) (pa_cons (Y.pe_c c_cut_by hr (by decide) rfl pass0 (pa_cons (pv 2) (pa_cons (pe_ix ix_tup (pv 1) pe_int (fun _ _ => rfl)) pa_nil))) (pa_cons (Y.pe_c c_paper_by hr (by decide) rfl pass0 (pa_cons (pv 2) (pa_cons (pv 1) pa_nil))) pa_nil)))))))))
  · obtain ⟨_, _, rfl, _⟩ := id h
    exact pure_best h
theorem ok_FullBook_init (T : Txt K mg) {f : Addr} {fd : FuncData} (F : FunD K "__init__" "FullBook.__init__" (defArgs s_FullBook_init) (defBody s_FullBook_init) (defScope s_FullBook_init) [] [] f fd)  : FnG P w K mg base CX0 1 f fd ["self", "book", "nights"] (sp_FullBook_init K) := by
  refine g_def F sc_FullBook_init (fun vs H Q E h => ?_) (fun cdv A outer s H vs Q E hr h => ⟨t_FullBook_init K, PSs.nox ?_, ?_⟩)
  · obtain ⟨_, _, _, rfl, _⟩ := h
    rfl
  · exact (pss_cons (ps_fld (pv 0) (pv 1) rfl)
  (pss_one (ps_fld (pv 0) (pv 2) rfl)))
  · obtain ⟨_, _, _, rfl, _⟩ := id h
    exact pure_FullBook_init h
theorem ok_Inn_books_now (T : Txt K mg) {f : Addr} {fd : FuncData} (F : FunD K "books_now" "Inn.books_now" (defArgs s_Inn_books_now) (defBody s_Inn_books_now) (defScope s_Inn_books_now) [] [] f fd) (c_Inn_full : Y.Met P w K mg base CX0 2 (He.ga K "Inn") "full" (sp_Inn_full K) []) (c_FullBook : Y.Mak P w K mg base CX0 1 "FullBook" (He.ga K "FullBook") (sp_FullBook_init K) []) : FnG P w K mg base CX0 3 f fd ["self"] (sp_Inn_books_now K) := by
  refine g_def F sc_Inn_books_now (fun vs H Q E h => ?_) (fun cdv A outer s H vs Q E hr h => ⟨t_Inn_books_now K, PSs.nox ?_, ?_⟩)
  · obtain ⟨_, rfl, _⟩ := h
    rfl
  · exact (pss_cons (ps_set (i := 1) sc_Inn_books_now.nd rfl (Or.inr rfl) (pe_callTy (call_dictP rfl) (by rfl) T.b_dict (by decide +kernel) (pa_cons (pe_lc (own := [("night", 3)]) (g := (gName 3)) (tt := tYes) rfl sc_Inn_books_now.nd (pi_list (Y.pe_m0 c_Inn_full hr (by decide) pass0 (pv 0))) (blkOk_by (own := [("night", 3)]) (N := ["self", "nights", "book", "night"]) (sc := defScope s_Inn_books_now) (by decide +kernel)) (fun _ _ _ _ _ => (pg_name (i := 3) sc_Inn_books_now.nd rfl (Or.inl rfl))) (fun _ _ _ _ _ => pts_nil) (fun _ _ _ _ _ => (pe_tup (pa_cons (pv 3) (pa_cons pe_bl pa_nil))))) pa_nil)))
  (pss_one (ps_ret (pe_lock (pe_lc (own := [("book", 2)]) (g := (gName 2)) (tt := tYes) rfl sc_Inn_books_now.nd (pi_values (pe_fld (pv 0) rfl)) (blkOk_by (own := [("book", 2)]) (N := ["self", "nights", "book", "night"]) (sc := defScope s_Inn_books_now) (by decide +kernel)) (fun _ _ _ _ _ => (pg_name (i := 2) sc_Inn_books_now.nd rfl (Or.inl rfl))) (fun _ _ _ _ _ => pts_nil) (fun _ _ _ _ _ => (Y.pe_k c_FullBook hr (by decide) rfl pass0 (pa_cons (pv 2) (pa_cons (pv 1) pa_nil)))))))))
  · obtain ⟨_, rfl, _⟩ := id h
    exact pure_Inn_books_now h
theorem ok_Inn_best (T : Txt K mg) {f : Addr} {fd : FuncData} (F : FunD K "best" "Inn.best" (defArgs s_Inn_best) (defBody s_Inn_best) (defScope s_Inn_best) [] [] f fd) (c_best : Y.Cal P w K mg base CX0 8 "best_cuts" (sp_best K) []) (c_Inn_books_now : Y.Met P w K mg base CX0 3 (He.ga K "Inn") "books_now" (sp_Inn_books_now K) []) : FnG P w K mg base CX0 9 f fd ["self", "stay"] (sp_Inn_best K) := by
  refine g_def F sc_Inn_best (fun vs H Q E h => ?_) (fun cdv A outer s H vs Q E hr h => ⟨t_Inn_best K, PSs.nox ?_, ?_⟩)
  · obtain ⟨_, _, rfl, _⟩ := h
    rfl
  · exact (pss_one (ps_ret (Y.pe_c c_best hr (by decide) rfl pass0 (pa_cons (Y.pe_m0 c_Inn_books_now hr (by decide) pass0 (pv 0)) (pa_cons (pv 1) pa_nil)))))
  · obtain ⟨_, _, rfl, _⟩ := id h
    exact pure_Inn_best h
theorem oke_Off_init (T : Txt K mg) {f : Addr} {fd : FuncData} (F : FunD K "__init__" "Off.__init__" (defArgs s_Off_init) (defBody s_Off_init) (defScope s_Off_init) [] [] f fd) : FnOk P w K mg base CX0 1 f fd ["self", "days"] (sp_xinit K "Off" "days") := by
  refine F.ok sc_Off_init (fun vs H Q E h => ?_) (fun cdv A outer s H vs Q E hr h => ⟨t_xinit K "days" "a stay without a cut", PSs.nox ?_, ?_⟩)
  · obtain ⟨_, _, rfl, _⟩ := h
    rfl
  · exact (pss_cons (ps_expr (Y.pe_stinit rfl T.g_StayError (pa_cons (pv 0) (pa_cons pe_str pa_nil)))) (pss_one (ps_ost (pv 0) (pv 1))))
  · obtain ⟨_, _, rfl, _⟩ := id h
    exact pure_xinit h
theorem ok_Inn_keep (T : Txt K mg) {f : Addr} {fd : FuncData} (F : FunD K "keep" "Inn.keep" (defArgs s_Inn_keep) (defBody s_Inn_keep) (defScope s_Inn_keep) [] [] f fd)  : FnG P w K mg base CX0 1 f fd ["self"] (sp_Inn_keep K) := by
  refine g_def F sc_Inn_keep (fun vs H Q E h => ?_) (fun cdv A outer s H vs Q E hr h => ⟨t_Inn_keep K, PSs.nox ?_, ?_⟩)
  · obtain ⟨_, rfl, _⟩ := h
    rfl
  · exact (pss_one (ps_expr (pe_bm PySem.F.plainAttrs_list PySem.F.slot_list_append PySem.F.type_list_append mt_append (pe_fld (pv 0) rfl) (pa_cons (pe_tup (pa_cons (pe_callTy call_dictD (by rfl) T.b_dict (by decide +kernel) (pa_cons (pe_fld (pv 0) rfl) pa_nil)) (pa_cons (pe_callTy call_dictD (by rfl) T.b_dict (by decide +kernel) (pa_cons (pe_fld (pv 0) rfl) pa_nil)) (pa_cons (pe_fld (pv 0) rfl) pa_nil)))) pa_nil))))
  · obtain ⟨_, rfl, _⟩ := id h
    exact pure_Inn_keep h
theorem okx_Inn_take (T : Txt K mg) {f : Addr} {fd : FuncData} (F : FunD K "take" "Inn.take" (defArgs s_Inn_take) (defBody s_Inn_take) (defScope s_Inn_take) [] [] f fd) (c_Inn_best : Y.Met P w K mg base CX0 9 (He.ga K "Inn") "best" (sp_Inn_best K) []) (ce_Off : Y.XIn P w K mg base 1 "Off" "days") (c_Inn_keep : Y.Met P w K mg base CX0 1 (He.ga K "Inn") "keep" (sp_Inn_keep K) []) : FnG P w K mg base (L2.CX P w) 10 f fd ["self", "stay"] (spx_Inn_take K) := by
  refine g_def F sc_Inn_take (fun vs H Q E h => ?_) (fun cdv A outer s H vs Q E hr h => ⟨x_Inn_take K E, ?_, ?_⟩)
  · obtain ⟨_, _, rfl, _⟩ := h
    rfl
  · exact (pss_cons (ps_set (i := 2) sc_Inn_take.nd rfl (Or.inl rfl) (Y.pe_m c_Inn_best hr (by decide) pass0 (pv 0) (pa_cons (pv 1) pa_nil)))
  (pss_cons (ps_if (pt_cmpR op_eq (pe_ix ix_tup (pv 2) pe_int (fun _ _ => rfl)) pe_str (nomark _)) (pss_one (Y.ps_raiseI ce_Off hr (by decide) rfl (takes_of (E := E) rfl rfl rfl rfl) rfl (pe_ix ix_tup (pv 2) pe_int (fun _ _ => rfl)))) pss_nil)
  (pss_cons (ps_expr (Y.pe_m0 c_Inn_keep hr (by decide) pass0 (pv 0)))
  (pss_cons (ps_set (i := 3) sc_Inn_take.nd rfl (Or.inl rfl) (pe_fld (pv 0) rfl))
  (pss_cons (ps_dput (hu_of hr.rm) (pe_fld (pv 0) rfl) (pv 3) (pe_tup (pa_cons (pv 1) (pa_cons (pe_ix ix_tup (pv 2) pe_int (fun _ _ => rfl)) (pa_cons (pe_ix ix_tup (pv 2) pe_int (fun _ _ => rfl)) pa_nil)))) rfl)
  (pss_cons (ps_fld (pv 0) (pe_op op_add (pv 3) pe_int) rfl)
  (pss_one (ps_ret (pv 3)))))))))
  · obtain ⟨_, _, rfl, _⟩ := id h
    exact purex_Inn_take h
theorem okx_Inn_give_back (T : Txt K mg) {f : Addr} {fd : FuncData} (F : FunD K "give_back" "Inn.give_back" (defArgs s_Inn_give_back) (defBody s_Inn_give_back) (defScope s_Inn_give_back) [] [] f fd) (c_is_whole : Y.Cal P w K mg base CX0 1 "is_whole" (sp_is_whole K) []) (c_Inn_keep : Y.Met P w K mg base CX0 1 (He.ga K "Inn") "keep" (sp_Inn_keep K) []) : FnG P w K mg base (L2.CX P w) 2 f fd ["self", "number"] (spx_Inn_give_back K) := by
  refine g_def F sc_Inn_give_back (fun vs H Q E h => ?_) (fun cdv A outer s H vs Q E hr h => ⟨x_Inn_give_back K E, ?_, ?_⟩)
  · obtain ⟨_, _, rfl, _⟩ := h
    rfl
  · exact (pss_cons (ps_if (PW.pt (pw_or (pt_not (pt_val (Y.pe_c c_is_whole hr (by decide) rfl pass0 (pa_cons (pv 1) pa_nil)))) (pw_or1 (pt_cmp (pc_dnotin (hu_of hr.rm) (pv 1) (pe_fld (pv 0) rfl)))))) (pss_one (Y.ps_raiseB rfl (takes_of (E := E) rfl rfl rfl rfl) T.g_NoTaken rfl)) pss_nil)
  (pss_cons (ps_expr (Y.pe_m0 c_Inn_keep hr (by decide) pass0 (pv 0)))
  (pss_one (ps_expr (pe_dpop1 (pe_fld (pv 0) rfl) (pv 1) ⟨by rfl, by rfl, by rfl, by rfl⟩)))))
  · obtain ⟨_, _, rfl, _⟩ := id h
    exact purex_Inn_give_back h
theorem okx_Inn_need_name (T : Txt K mg) {f : Addr} {fd : FuncData} (F : FunD K "need_name" "Inn.need_name" (defArgs s_Inn_need_name) (defBody s_Inn_need_name) (defScope s_Inn_need_name) [] [] f fd)  : FnG P w K mg base (L2.CX P w) 1 f fd ["self", "name"] (spx_Inn_need_name K) := by
  refine g_def F sc_Inn_need_name (fun vs H Q E h => ?_) (fun cdv A outer s H vs Q E hr h => ⟨x_Inn_need_name K E, ?_, ?_⟩)
  · obtain ⟨_, _, rfl, _⟩ := h
    rfl
  · exact (pss_one (ps_if (pt_cmp (pc_dnotin (hu_of hr.rm) (pv 1) (pe_fld (pv 0) rfl))) (pss_one (Y.ps_raiseB rfl (takes_of (E := E) rfl rfl rfl rfl) T.g_NoName rfl)) pss_nil))
  · obtain ⟨_, _, rfl, _⟩ := id h
    exact purex_Inn_need_name h
theorem oke_NoRule_init (T : Txt K mg) {f : Addr} {fd : FuncData} (F : FunD K "__init__" "NoRule.__init__" (defArgs s_NoRule_init) (defBody s_NoRule_init) (defScope s_NoRule_init) [] [] f fd) : FnOk P w K mg base CX0 1 f fd ["self", "number"] (sp_xinit K "NoRule" "number") := by
  refine F.ok sc_NoRule_init (fun vs H Q E h => ?_) (fun cdv A outer s H vs Q E hr h => ⟨t_xinit K "number" "a thing that is no rule", PSs.nox ?_, ?_⟩)
  · obtain ⟨_, _, rfl, _⟩ := h
    rfl
  · exact (pss_cons (ps_expr (Y.pe_stinit rfl T.g_StayError (pa_cons (pv 0) (pa_cons pe_str pa_nil)))) (pss_one (ps_ost (pv 0) (pv 1))))
  · obtain ⟨_, _, rfl, _⟩ := id h
    exact pure_xinit h
theorem okx_Book_init (T : Txt K mg) {f : Addr} {fd : FuncData} (F : FunD K "__init__" "Book.__init__" (defArgs s_Book_init) (defBody s_Book_init) (defScope s_Book_init) [.non] [] f fd) (c_rule_of : Y.Cal P w K mg base CX0 5 "rule_of" (sp_rule_of K) []) (ce_NoRule : Y.XIn P w K mg base 1 "NoRule" "number") (c_Price_word : Y.Met P w K mg base CX0 1 (He.ga K "Price") "word" (sp_Price_word K) []) (c_Come_word : Y.Met P w K mg base CX0 1 (He.ga K "Come") "word" (sp_Come_word K) []) (c_Go_word : Y.Met P w K mg base CX0 1 (He.ga K "Go") "word" (sp_Go_word K) []) (c_Least_word : Y.Met P w K mg base CX0 1 (He.ga K "Least") "word" (sp_Least_word K) []) (c_Most_word : Y.Met P w K mg base CX0 1 (He.ga K "Most") "word" (sp_Most_word K) []) (c_Deal_word : Y.Met P w K mg base CX0 1 (He.ga K "Deal") "word" (sp_Deal_word K) []) (c_Fee_word : Y.Met P w K mg base CX0 1 (He.ga K "Fee") "word" (sp_Fee_word K) []) : FnG P w K mg base (L2.CX P w) 6 f fd ["self", "rules"] (spx_Book_init K) := by
  refine g_def F sc_Book_init (fun vs H Q E h => ?_) (fun cdv A outer s H vs Q E hr h => ⟨x_Book_init K E, ?_, ?_⟩)
  · obtain ⟨_, _, rfl, _⟩ := h
    rfl
  · exact (pss_cons (ps_set (i := 2) sc_Book_init.nd rfl (Or.inl rfl) (pe_lst pa_nil))
  (pss_cons (ps_if (pt_cmpR op_notN (pv 1) pe_non (nomark _)) (pss_one (ps_set (i := 2) sc_Book_init.nd rfl (Or.inl rfl) (pe_callTy call_list_of (by rfl) T.b_list (by decide +kernel) (pa_cons (pv 1) pa_nil)))) pss_nil)
  (pss_cons (ps_fld (pv 0) (pe_lst pa_nil) rfl)
  (pss_cons (ps_fld (pv 0) pe_dnewK rfl)
  (pss_cons (ps_for (passes_of rfl) rfl (pi_enum (by rfl) T.b_enumerate (pa_cons (pv 2) pa_nil)) (pg_tup (by rfl) (pgs_cons (pg_name (i := 3) sc_Book_init.nd rfl (Or.inl rfl)) (pgs_cons (pg_name (i := 4) sc_Book_init.nd rfl (Or.inl rfl)) pgs_nil))) (pss_cons (ps_set (i := 5) sc_Book_init.nd rfl (Or.inl rfl) (Y.pe_c c_rule_of hr (by decide) rfl pass0 (pa_cons (pv 4) pa_nil)))
  (pss_cons (ps_if (pt_cmpR op_isN (pv 5) pe_non (nomark _)) (pss_one (Y.ps_raiseI ce_NoRule hr (by decide) rfl (takes_of (E := E) rfl rfl rfl rfl) rfl (pv 3))) pss_nil)
  (pss_cons (ps_expr (pe_bm PySem.F.plainAttrs_list PySem.F.slot_list_append PySem.F.type_list_append mt_append (pe_fld (pv 0) rfl) (pa_cons (pv 5) pa_nil)))
  (pss_one (ps_expr (pe_bm PySem.F.plainAttrs_list PySem.F.slot_list_insert PySem.F.type_list_insert mt_insert (pe_dsetd (pe_fld (pv 0) rfl) (Y.pe_rule fun w => match w with | .price => Y.pe_m0 c_Price_word hr (by decide) pass0 (pv 5) | .come => Y.pe_m0 c_Come_word hr (by decide) pass0 (pv 5) | .go => Y.pe_m0 c_Go_word hr (by decide) pass0 (pv 5) | .least => Y.pe_m0 c_Least_word hr (by decide) pass0 (pv 5) | .most => Y.pe_m0 c_Most_word hr (by decide) pass0 (pv 5) | .deal => Y.pe_m0 c_Deal_word hr (by decide) pass0 (pv 5) | .fee => Y.pe_m0 c_Fee_word hr (by decide) pass0 (pv 5)) (pe_lst pa_nil) ⟨by rfl, by rfl, by rfl, by rfl⟩) (pa_cons pe_int (pa_cons (pv 5) pa_nil)))))))))
  (pss_one (ps_if (pt_cmpR op_gt (pe_callB call_len_seq (by rfl) T.b_len (by decide +kernel) (pa_cons (pv 2) pa_nil)) (pe_glob rfl T.c_MOST_RULES.choose_spec.1 T.c_MOST_RULES.choose_spec.2) (nomark _)) (pss_one (Y.ps_raiseB rfl (takes_of (E := E) rfl rfl rfl rfl) T.g_TooMany rfl)) pss_nil)))))))
  · obtain ⟨_, _, rfl, _⟩ := id h
    exact purex_Book_init h
theorem okx_laid (T : Txt K mg) {f : Addr} {fd : FuncData} (F : FunD K "laid" "laid" (defArgs s_laid) (defBody s_laid) (defScope s_laid) [] [] f fd) (c_Book_rules : Y.Met P w K mg base CX0 3 (He.ga K "Book") "rules" (sp_Book_rules K) []) (cx_Book : Y.Mak P w K mg base (L2.CX P w) 6 "Book" (He.ga K "Book") (spx_Book_init K) []) : FnG P w K mg base (L2.CX P w) 8 f fd ["elder", "newer"] (spx_laid K) := by
  refine g_def F sc_laid (fun vs H Q E h => ?_) (fun cdv A outer s H vs Q E hr h => ⟨x_laid K E, ?_, ?_⟩)
  · obtain ⟨_, _, rfl, _⟩ := h
    rfl
  · exact (pss_one (ps_ret (Y.pe_kx cx_Book hr (by decide) rfl (takes_of (E := E) rfl rfl rfl rfl) (pa_cons (pe_op op_cat (Y.pe_m0 c_Book_rules hr (by decide) pass0 (pv 0)) (Y.pe_m0 c_Book_rules hr (by decide) pass0 (pv 1))) pa_nil))))
  · obtain ⟨_, _, rfl, _⟩ := id h
    exact purex_laid h
theorem okx_Inn_lay (T : Txt K mg) {f : Addr} {fd : FuncData} (F : FunD K "lay" "Inn.lay" (defArgs s_Inn_lay) (defBody s_Inn_lay) (defScope s_Inn_lay) [] [] f fd) (cx_Inn_need_name : Y.Met P w K mg base (L2.CX P w) 1 (He.ga K "Inn") "need_name" (spx_Inn_need_name K) []) (cx_laid : Y.Cal P w K mg base (L2.CX P w) 8 "laid" (spx_laid K) []) (cx_Book : Y.Mak P w K mg base (L2.CX P w) 6 "Book" (He.ga K "Book") (spx_Book_init K) []) (c_Inn_keep : Y.Met P w K mg base CX0 1 (He.ga K "Inn") "keep" (sp_Inn_keep K) []) : FnG P w K mg base (L2.CX P w) 9 f fd ["self", "name", "rules"] (spx_Inn_lay K) := by
  refine g_def F sc_Inn_lay (fun vs H Q E h => ?_) (fun cdv A outer s H vs Q E hr h => ⟨x_Inn_lay K E, ?_, ?_⟩)
  · obtain ⟨_, _, _, rfl, _⟩ := h
    rfl
  · exact (pss_cons (ps_expr (Y.pe_mx cx_Inn_need_name hr (by decide) (takes_of (E := E) rfl rfl rfl rfl) (pv 0) (pa_cons (pv 1) pa_nil)))
  (pss_cons (ps_set (i := 3) sc_Inn_lay.nd rfl (Or.inl rfl) (Y.pe_cx cx_laid hr (by decide) rfl (takes_of (E := E) rfl rfl rfl rfl) (pa_cons (pe_dget (hu_of hr.rm) (pe_fld (pv 0) rfl) (pv 1) (fun _ _ => rfl)) (pa_cons (Y.pe_kx cx_Book hr (by decide) rfl (takes_of (E := E) rfl rfl rfl rfl) (pa_cons (pv 2) pa_nil)) pa_nil))))
  (pss_cons (ps_expr (Y.pe_m0 c_Inn_keep hr (by decide) pass0 (pv 0)))
  (pss_one (ps_dput (hu_of hr.rm) (pe_fld (pv 0) rfl) (pv 1) (pv 3) rfl)))))
  · obtain ⟨_, _, _, rfl, _⟩ := id h
    exact purex_Inn_lay h
theorem ok_bounds_of (T : Txt K mg) {f : Addr} {fd : FuncData} (F : FunD K "bounds_of" "bounds_of" (defArgs s_bounds_of) (defBody s_bounds_of) (defScope s_bounds_of) [] [] f fd) (c_Book_rules : Y.Met P w K mg base CX0 3 (He.ga K "Book") "rules" (sp_Book_rules K) []) : FnG P w K mg base CX0 4 f fd ["books"] (sp_bounds_of K) := by
  refine g_def F sc_bounds_of (fun vs H Q E h => ?_) (fun cdv A outer s H vs Q E hr h => ⟨t_bounds_of K, PSs.nox ?_, ?_⟩)
  · obtain ⟨_, rfl, _⟩ := h
    rfl
  · exact (pss_cons (ps_set (i := 1) sc_bounds_of.nd rfl (Or.inl rfl) (pe_lst (pa_cons pe_int pa_nil)))
  (pss_cons (ps_for PassesOwn.never rfl (pi_list (pv 0)) (pg_name (i := 2) sc_bounds_of.nd rfl (Or.inl rfl)) (pss_one (ps_for PassesOwn.never rfl (pi_list (Y.pe_m0 c_Book_rules hr (by decide) pass0 (pv 2))) (pg_tup (by rfl) (pgs_cons (pg_name (i := 3) sc_bounds_of.nd rfl (Or.inl rfl)) (pgs_cons (pg_name (i := 4) sc_bounds_of.nd rfl (Or.inl rfl)) (pgs_cons (pg_name (i := 5) sc_bounds_of.nd rfl (Or.inl rfl)) (pgs_cons (pg_name (i := 6) sc_bounds_of.nd rfl (Or.inl rfl)) pgs_nil))))) (pss_one (ps_expr (pe_bm PySem.F.plainAttrs_list PySem.F.slot_list_extend PySem.F.type_list_extend mt_extend (pv 1) (pa_cons (pe_lst (pa_cons (pv 4) (pa_cons (pe_op op_add (pv 5) pe_int) pa_nil))) pa_nil)))))))
  (pss_one (ps_ret (Y.pe_sortSet (by rfl) T.b_sorted (by rfl) T.b_set (pv 1))))))
  · obtain ⟨_, rfl, _⟩ := id h
    exact pure_bounds_of h
theorem ok_unlike (T : Txt K mg) {f : Addr} {fd : FuncData} (F : FunD K "unlike" "unlike" (defArgs s_unlike) (defBody s_unlike) (defScope s_unlike) [] [] f fd) (c_bounds_of : Y.Cal P w K mg base CX0 4 "bounds_of" (sp_bounds_of K) []) (c_Book_tells_of : Y.Met P w K mg base CX0 2 (He.ga K "Book") "tells_of" (sp_Book_tells_of K) []) : FnG P w K mg base CX0 5 f fd ["one", "other"] (sp_unlike K) := by
  refine g_def F sc_unlike (fun vs H Q E h => ?_) (fun cdv A outer s H vs Q E hr h => ⟨t_unlike K, PSs.nox ?_, ?_⟩)
  · obtain ⟨_, _, rfl, _⟩ := h
    rfl
  · exact (pss_cons (ps_setLc (i := 3) (own := [("day", 2)]) (g := (gName 2)) (tt := (tTest (tOp rLe (tVar 2) (tC (.int 1000000))))) rfl sc_unlike.nd rfl rfl (sw_true rfl rfl rfl (by decide +kernel)) (pi_list (Y.pe_c c_bounds_of hr (by decide) rfl pass0 (pa_cons (pe_lst (pa_cons (pv 0) (pa_cons (pv 1) pa_nil))) pa_nil))) (blkOk_by (own := [("day", 2)]) (N := ["one", "other", "day", "days", "word"]) (sc := defScope s_unlike) (by decide +kernel)) (fun _ _ _ _ _ => (pg_name (i := 2) sc_unlike.nd rfl (Or.inl rfl))) (fun _ _ _ _ _ => (pts_one (pt_cmpR op_le (pv 2) (pe_glob rfl T.c_LAST_DAY.choose_spec.1 T.c_LAST_DAY.choose_spec.2) (nomark _)))) (fun _ _ _ _ _ => (pv 2)))
  (pss_cons (ps_for PassesOwn.never rfl (pi_tup (pe_glob rfl T.c_WORDS.choose_spec.1 T.c_WORDS.choose_spec.2)) (pg_name (i := 4) sc_unlike.nd rfl (Or.inl rfl)) (pss_one (ps_for PassesOwn.never rfl (pi_list (pv 3)) (pg_name (i := 2) sc_unlike.nd rfl (Or.inl rfl)) (pss_one (ps_if (pt_cmpR (op_neD hr.units) (Y.pe_m c_Book_tells_of hr (by decide) pass0 (pv 0) (pa_cons (pv 4) (pa_cons (pv 2) pa_nil))) (Y.pe_m c_Book_tells_of hr (by decide) pass0 (pv 1) (pa_cons (pv 4) (pa_cons (pv 2) pa_nil))) (nomark _)) (pss_one (ps_ret (pe_tup (pa_cons (pv 4) (pa_cons (pv 2) pa_nil))))) pss_nil)))))
  (pss_one (ps_ret pe_non))))
  · obtain ⟨_, _, rfl, _⟩ := id h
    exact pure_unlike h
theorem ok_tidied (T : Txt K mg) {f : Addr} {fd : FuncData} (F : FunD K "tidied" "tidied" (defArgs s_tidied) (defBody s_tidied) (defScope s_tidied) [] [] f fd) (c_Book_rules : Y.Met P w K mg base CX0 3 (He.ga K "Book") "rules" (sp_Book_rules K) []) (c_unlike : Y.Cal P w K mg base CX0 5 "unlike" (sp_unlike K) []) (c_Book : Y.Mak P w K mg base CX0 6 "Book" (He.ga K "Book") (sp_Book_init K) []) : FnG P w K mg base CX0 8 f fd ["book"] (sp_tidied K) := by
  refine g_def F sc_tidied (fun vs H Q E h => ?_) (fun cdv A outer s H vs Q E hr h => ⟨t_tidied K, PSs.nox ?_, ?_⟩)
  · obtain ⟨_, rfl, _⟩ := h
    rfl
  · exact (pss_cons (ps_set (i := 1) sc_tidied.nd rfl (Or.inl rfl) (Y.pe_m0 c_Book_rules hr (by decide) pass0 (pv 0)))
  (pss_cons (ps_set (i := 2) sc_tidied.nd rfl (Or.inl rfl) pe_int)
  (pss_cons (ps_while PassesOwn.never (pt_cmpR op_lt (pv 2) (pe_callB call_len_seq (by rfl) T.b_len (by decide +kernel) (pa_cons (pv 1) pa_nil)) (nomark _)) (pss_cons (ps_set (i := 3) sc_tidied.nd rfl (Or.inl rfl) (pe_op op_cat (pe_slice sl_list (pv 1) po_none (po_some (pv 2))) (pe_slice sl_list (pv 1) (po_some (pe_op op_add (pv 2) pe_int)) po_none)))
  (pss_one (ps_if (pt_cmpR op_isN (Y.pe_c c_unlike hr (by decide) rfl pass0 (pa_cons (pv 0) (pa_cons (Y.pe_k c_Book hr (by decide) rfl pass0 (pa_cons (pv 3) pa_nil)) pa_nil))) pe_non (nomark _)) (pss_one (ps_set (i := 1) sc_tidied.nd rfl (Or.inl rfl) (pv 3))) (pss_one (ps_set (i := 2) sc_tidied.nd rfl (Or.inl rfl) (pe_op op_add (pv 2) pe_int)))))))
  (pss_one (ps_ret (Y.pe_k c_Book hr (by decide) rfl pass0 (pa_cons (pv 1) pa_nil)))))))
  · obtain ⟨_, rfl, _⟩ := id h
    exact pure_tidied h
theorem okx_Inn_tidy (T : Txt K mg) {f : Addr} {fd : FuncData} (F : FunD K "tidy" "Inn.tidy" (defArgs s_Inn_tidy) (defBody s_Inn_tidy) (defScope s_Inn_tidy) [] [] f fd) (cx_Inn_need_name : Y.Met P w K mg base (L2.CX P w) 1 (He.ga K "Inn") "need_name" (spx_Inn_need_name K) []) (c_tidied : Y.Cal P w K mg base CX0 8 "tidied" (sp_tidied K) []) (c_Inn_keep : Y.Met P w K mg base CX0 1 (He.ga K "Inn") "keep" (sp_Inn_keep K) []) : FnG P w K mg base (L2.CX P w) 9 f fd ["self", "name"] (spx_Inn_tidy K) := by
  refine g_def F sc_Inn_tidy (fun vs H Q E h => ?_) (fun cdv A outer s H vs Q E hr h => ⟨x_Inn_tidy K E, ?_, ?_⟩)
  · obtain ⟨_, _, rfl, _⟩ := h
    rfl
  · exact (pss_cons (ps_expr (Y.pe_mx cx_Inn_need_name hr (by decide) (takes_of (E := E) rfl rfl rfl rfl) (pv 0) (pa_cons (pv 1) pa_nil)))
  (pss_cons (ps_set (i := 2) sc_Inn_tidy.nd rfl (Or.inl rfl) (Y.pe_c c_tidied hr (by decide) rfl pass0 (pa_cons (pe_dget (hu_of hr.rm) (pe_fld (pv 0) rfl) (pv 1) (fun _ _ => rfl)) pa_nil)))
  (pss_cons (ps_expr (Y.pe_m0 c_Inn_keep hr (by decide) pass0 (pv 0)))
  (pss_one (ps_dput (hu_of hr.rm) (pe_fld (pv 0) rfl) (pv 1) (pv 2) rfl)))))
  · obtain ⟨_, _, rfl, _⟩ := id h
    exact purex_Inn_tidy h
theorem okx_Inn_undo (T : Txt K mg) {f : Addr} {fd : FuncData} (F : FunD K "undo" "Inn.undo" (defArgs s_Inn_undo) (defBody s_Inn_undo) (defScope s_Inn_undo) [] [] f fd)  : FnG P w K mg base (L2.CX P w) 1 f fd ["self"] (spx_Inn_undo K) := by
  refine g_def F sc_Inn_undo (fun vs H Q E h => ?_) (fun cdv A outer s H vs Q E hr h => ⟨x_Inn_undo K E, ?_, ?_⟩)
  · obtain ⟨_, rfl, _⟩ := h
    rfl
  · exact (pss_cons (ps_if (pt_cmpR (Y.op_eqE hr.units) (pe_fld (pv 0) rfl) (pe_lst pa_nil) (nomark _)) (pss_one (Y.ps_raiseB rfl (takes_of (E := E) rfl rfl rfl rfl) T.g_NoDeed rfl)) pss_nil)
  (pss_one (ps_asg (pe_bm0 PySem.F.plainAttrs_list PySem.F.slot_list_pop PySem.F.type_list_pop mt_pop (pe_fld (pv 0) rfl)) (pg_tup (by rfl) (pgs_cons (Y.pg_fld (pv 0)) (pgs_cons (Y.pg_fld (pv 0)) (pgs_cons (Y.pg_fld (pv 0)) pgs_nil)))))))
  · obtain ⟨_, rfl, _⟩ := id h
    exact purex_Inn_undo h
theorem ok_Ldone (T : Txt K mg) {f : Addr} {fd : FuncData} (F : FunD K "_law_done" "_law_done" (defArgs s_Ldone) (defBody s_Ldone) (defScope s_Ldone) [] [] f fd) (cx_Inn_take : Y.Met P w K mg base (L2.CX P w) 10 (He.ga K "Inn") "take" (spx_Inn_take K) []) (cx_Inn_give_back : Y.Met P w K mg base (L2.CX P w) 2 (He.ga K "Inn") "give_back" (spx_Inn_give_back K) []) (cx_Inn_lay : Y.Met P w K mg base (L2.CX P w) 9 (He.ga K "Inn") "lay" (spx_Inn_lay K) []) (cx_Inn_tidy : Y.Met P w K mg base (L2.CX P w) 9 (He.ga K "Inn") "tidy" (spx_Inn_tidy K) []) (cx_Inn_undo : Y.Met P w K mg base (L2.CX P w) 1 (He.ga K "Inn") "undo" (spx_Inn_undo K) []) : FnG P w K mg base CX0 11 f fd ["_law_inn", "_law_deed_here"] (sp_Ldone K) := by
  refine g_def F sc_Ldone (fun vs H Q E h => ?_) (fun cdv A outer s H vs Q E hr h => ⟨t_Ldone K, PSs.nox ?_, ?_⟩)
  · obtain ⟨_, _, rfl, _⟩ := h
    rfl
  · exact (pss_one (Y.ps_tryK (i := 2) (tb := fun W1 => (tSeq (tIfS (tTest (tOp rEq (tOp (rIxT K) (tVar 1) (tC (.int 0))) (tC (.str "take"))))
  (tRet (tTup (tCons (tC (.str "ok")) (tCons (tMethX (He.ga K "Inn") "take" (spx_Inn_take K) [] W1 (tVar 0) (tCons (tOp (rIxT K) (tVar 1) (tC (.int 1))) tNil)) tNil))))
  tNext)
  (tSeq (tIfS (tTest (tOp rEq (tOp (rIxT K) (tVar 1) (tC (.int 0))) (tC (.str "back"))))
  (tRet (tTup (tCons (tC (.str "ok")) (tCons (tMethX (He.ga K "Inn") "give_back" (spx_Inn_give_back K) [] W1 (tVar 0) (tCons (tOp (rIxT K) (tVar 1) (tC (.int 1))) tNil)) tNil))))
  tNext)
  (tSeq (tIfS (tTest (tOp rEq (tOp (rIxT K) (tVar 1) (tC (.int 0))) (tC (.str "lay"))))
  (tRet (tTup (tCons (tC (.str "ok")) (tCons (tMethX (He.ga K "Inn") "lay" (spx_Inn_lay K) [] W1 (tVar 0) (tCons (tOp (rIxT K) (tVar 1) (tC (.int 1))) (tCons (tOp (rIxT K) (tVar 1) (tC (.int 2))) tNil))) tNil))))
  tNext)
  (tSeq (tIfS (tTest (tOp rEq (tOp (rIxT K) (tVar 1) (tC (.int 0))) (tC (.str "tidy"))))
  (tRet (tTup (tCons (tC (.str "ok")) (tCons (tMethX (He.ga K "Inn") "tidy" (spx_Inn_tidy K) [] W1 (tVar 0) (tCons (tOp (rIxT K) (tVar 1) (tC (.int 1))) tNil)) tNil))))
  tNext)
  (tRet (tTup (tCons (tC (.str "ok")) (tCons (tMethX (He.ga K "Inn") "undo" (spx_Inn_undo K) [] W1 (tVar 0) tNil) tNil))))))))) (ts := (tSeq (tAsg (tLst (tCons (tCB (Y.rIsK K) (tCons (tVar 2) (tCons (tC (.ref (He.ga K "Off"))) tNil))) (tCons (tCB (Y.rIsK K) (tCons (tVar 2) (tCons (tC (.ref (He.ga K "NoTaken"))) tNil))) (tCons (tCB (Y.rIsK K) (tCons (tVar 2) (tCons (tC (.ref (He.ga K "NoName"))) tNil))) (tCons (tCB (Y.rIsK K) (tCons (tVar 2) (tCons (tC (.ref (He.ga K "NoRule"))) tNil))) tNil))))) (gName 3))
  (tSeq (tAsg (tOp rCat (tVar 3) (tLst (tCons (tCB (Y.rIsK K) (tCons (tVar 2) (tCons (tC (.ref (He.ga K "TooMany"))) tNil))) (tCons (tCB (Y.rIsK K) (tCons (tVar 2) (tCons (tC (.ref (He.ga K "NoDeed"))) tNil))) tNil)))) (gName 3))
  (tSeq (tIfS (tOr (tTest (tOp rNe (tBM K "list" (rCntV K) (tVar 3) (tCons (tC (.bl true)) tNil)) (tC (.int 1)))) (tNot (tB (tCB (Y.rIsK K) (tCons (tVar 2) (tCons (tC (.ty "ValueError")) tNil))))))
  (tRet (tTup (tCons (tC (.str "wrong")) (tCons (tC .non) tNil))))
  tNext)
  (tSeq (tIfS (tB (tCB (Y.rIsK K) (tCons (tVar 2) (tCons (tC (.ref (He.ga K "Off"))) tNil))))
  (tRet (tTup (tCons (tC (.str "off")) (tCons (tXat K (tVar 2) "days") tNil))))
  tNext)
  (tSeq (tIfS (tB (tCB (Y.rIsK K) (tCons (tVar 2) (tCons (tC (.ref (He.ga K "NoRule"))) tNil))))
  (tRet (tTup (tCons (tC (.str "no rule")) (tCons (tXat K (tVar 2) "number") tNil))))
  tNext)
  (tRet (tTup (tCons (tOp (rIxL K) (tLst (tCons (tC (.str "")) (tCons (tC (.str "no taken")) (tCons (tC (.str "no name")) (tCons (tC (.str "")) (tCons (tC (.str "many")) (tCons (tC (.str "no deed")) tNil))))))) (tBM K "list" (rIndex K) (tVar 3) (tCons (tC (.bl true)) tNil))) (tCons (tC .non) tNil)))))))))) (Wout := (fun _ _ _ _ => False)) rfl rfl rfl sc_Ldone.nd rfl rfl ⟨rfl, by decide, Or.inl T.g_StayError⟩ takes0 (fun W1 pn1 xe1 tk1 po1 => (pss_cons (ps_if (pt_cmpR op_eq (pe_ix ix_tup (pv 1) pe_int (fun _ _ => rfl)) pe_str (nomark _)) (pss_one (ps_ret (pe_tup (pa_cons pe_str (pa_cons (Y.pe_mx cx_Inn_take hr (by decide) tk1 (pv 0) (pa_cons (pe_ix ix_tup (pv 1) pe_int (fun _ _ => rfl)) pa_nil)) pa_nil))))) pss_nil)
  (pss_cons (ps_if (pt_cmpR op_eq (pe_ix ix_tup (pv 1) pe_int (fun _ _ => rfl)) pe_str (nomark _)) (pss_one (ps_ret (pe_tup (pa_cons pe_str (pa_cons (Y.pe_mx cx_Inn_give_back hr (by decide) tk1 (pv 0) (pa_cons (pe_ix ix_tup (pv 1) pe_int (fun _ _ => rfl)) pa_nil)) pa_nil))))) pss_nil)
  (pss_cons (ps_if (pt_cmpR op_eq (pe_ix ix_tup (pv 1) pe_int (fun _ _ => rfl)) pe_str (nomark _)) (pss_one (ps_ret (pe_tup (pa_cons pe_str (pa_cons (Y.pe_mx cx_Inn_lay hr (by decide) tk1 (pv 0) (pa_cons (pe_ix ix_tup (pv 1) pe_int (fun _ _ => rfl)) (pa_cons (pe_ix ix_tup (pv 1) pe_int (fun _ _ => rfl)) pa_nil))) pa_nil))))) pss_nil)
  (pss_cons (ps_if (pt_cmpR op_eq (pe_ix ix_tup (pv 1) pe_int (fun _ _ => rfl)) pe_str (nomark _)) (pss_one (ps_ret (pe_tup (pa_cons pe_str (pa_cons (Y.pe_mx cx_Inn_tidy hr (by decide) tk1 (pv 0) (pa_cons (pe_ix ix_tup (pv 1) pe_int (fun _ _ => rfl)) pa_nil)) pa_nil))))) pss_nil)
  (pss_one (ps_ret (pe_tup (pa_cons pe_str (pa_cons (Y.pe_mx0 cx_Inn_undo hr (by decide) tk1 (pv 0)) pa_nil)))))))))) (fun a1 pn1 => (pss_cons (ps_set (i := 3) sc_Ldone.nd rfl (Or.inl rfl) (pe_lst (pa_cons (pe_callB Y.call_isK (by rfl) T.b_isinstance (by decide +kernel) (pa_cons (pv 2) (pa_cons (pe_glob rfl T.g_Off rfl) pa_nil))) (pa_cons (pe_callB Y.call_isK (by rfl) T.b_isinstance (by decide +kernel) (pa_cons (pv 2) (pa_cons (pe_glob rfl T.g_NoTaken rfl) pa_nil))) (pa_cons (pe_callB Y.call_isK (by rfl) T.b_isinstance (by decide +kernel) (pa_cons (pv 2) (pa_cons (pe_glob rfl T.g_NoName rfl) pa_nil))) (pa_cons (pe_callB Y.call_isK (by rfl) T.b_isinstance (by decide +kernel) (pa_cons (pv 2) (pa_cons (pe_glob rfl T.g_NoRule rfl) pa_nil))) pa_nil))))))
  (pss_cons (ps_set (i := 3) sc_Ldone.nd rfl (Or.inl rfl) (pe_op op_cat (pv 3) (pe_lst (pa_cons (pe_callB Y.call_isK (by rfl) T.b_isinstance (by decide +kernel) (pa_cons (pv 2) (pa_cons (pe_glob rfl T.g_TooMany rfl) pa_nil))) (pa_cons (pe_callB Y.call_isK (by rfl) T.b_isinstance (by decide +kernel) (pa_cons (pv 2) (pa_cons (pe_glob rfl T.g_NoDeed rfl) pa_nil))) pa_nil)))))
  (pss_cons (ps_if (PW.pt (pw_or (pt_cmpR op_ne (pe_bm PySem.F.plainAttrs_list PySem.F.slot_list_count PySem.F.type_list_count Y.mt_cntV (pv 3) (pa_cons pe_bl pa_nil)) pe_int (nomark _)) (pw_or1 (pt_not (pt_val (pe_callB Y.call_isK (by rfl) T.b_isinstance (by decide +kernel) (pa_cons (pv 2) (pa_cons (pe_bltn (v := .ty "ValueError") (by rfl) T.b_ValueError (by decide +kernel) rfl) pa_nil)))))))) (pss_one (ps_ret (pe_tup (pa_cons pe_str (pa_cons pe_non pa_nil))))) pss_nil)
  (pss_cons (ps_if (pt_val (pe_callB Y.call_isK (by rfl) T.b_isinstance (by decide +kernel) (pa_cons (pv 2) (pa_cons (pe_glob rfl T.g_Off rfl) pa_nil)))) (pss_one (ps_ret (pe_tup (pa_cons pe_str (pa_cons (Y.pe_xat (pv 2)) pa_nil))))) pss_nil)
  (pss_cons (ps_if (pt_val (pe_callB Y.call_isK (by rfl) T.b_isinstance (by decide +kernel) (pa_cons (pv 2) (pa_cons (pe_glob rfl T.g_NoRule rfl) pa_nil)))) (pss_one (ps_ret (pe_tup (pa_cons pe_str (pa_cons (Y.pe_xat (pv 2)) pa_nil))))) pss_nil)
  (pss_one (ps_ret (pe_tup (pa_cons (pe_ix ix_list (pe_lst (pa_cons pe_str (pa_cons pe_str (pa_cons pe_str (pa_cons pe_str (pa_cons pe_str (pa_cons pe_str pa_nil))))))) (pe_bm PySem.F.plainAttrs_list PySem.F.slot_list_index PySem.F.type_list_index mt_index (pv 3) (pa_cons pe_bl pa_nil)) (fun _ _ => rfl)) (pa_cons pe_non pa_nil)))))))))))))
  · obtain ⟨_, _, rfl, _⟩ := id h
    exact pure_Ldone h
theorem ok_Lplayed (T : Txt K mg) {f : Addr} {fd : FuncData} (F : FunD K "_law_played" "_law_played" (defArgs s_Lplayed) (defBody s_Lplayed) (defScope s_Lplayed) [] [] f fd) (c_Lseen : Y.Cal P w K mg base CX0 5 "_law_seen" (sp_Lseen K) []) (c_Ldeed : Y.Cal P w K mg base CX0 5 "_law_deed" (sp_Ldeed K) []) (c_Lbegin : Y.Cal P w K mg base CX0 1 "_law_begin" (sp_Lbegin K) []) (c_Ldone : Y.Cal P w K mg base CX0 11 "_law_done" (sp_Ldone K) []) : FnG P w K mg base CX0 12 f fd ["_law_inn", "_law_day_here", "_law_cells"] (sp_Lplayed K) := by
  refine g_def F sc_Lplayed (fun vs H Q E h => ?_) (fun cdv A outer s H vs Q E hr h => ⟨t_Lplayed K, PSs.nox ?_, ?_⟩)
  · obtain ⟨_, _, _, rfl, _⟩ := h
    rfl
  · exact (pss_cons (ps_set (i := 3) sc_Lplayed.nd rfl (Or.inl rfl) (pe_lst pa_nil))
  (pss_cons (ps_for PassesOwn.never rfl (pi_list (pv 2)) (pg_name (i := 4) sc_Lplayed.nd rfl (Or.inl rfl)) (pss_cons (ps_set (i := 5) sc_Lplayed.nd rfl (Or.inl rfl) (Y.pe_c c_Lseen hr (by decide) rfl pass0 (pa_cons (pv 0) pa_nil)))
  (pss_cons (ps_set (i := 6) sc_Lplayed.nd rfl (Or.inl rfl) (Y.pe_c c_Ldeed hr (by decide) rfl pass0 (pa_cons (Y.pe_c c_Lbegin hr (by decide) rfl pass0 (pa_cons (pv 4) pa_nil)) (pa_cons (pv 1) (pa_cons pe_non (pa_cons (pe_lc (own := [("_law_row", 8)]) (g := (gName 8)) (tt := tYes) rfl sc_Lplayed.nd (pi_list (pe_ix ix_tup (pv 5) pe_int (fun _ _ => rfl))) (blkOk_by (own := [("_law_row", 8)]) (N := ["_law_inn", "_law_day_here", "_law_cells", "_law_seen_here", "_law_cell", "_law_ahead", "_law_deed_here", "_law_told", "_law_row"]) (sc := defScope s_Lplayed) (by decide +kernel)) (fun _ _ _ _ _ => (pg_name (i := 8) sc_Lplayed.nd rfl (Or.inl rfl))) (fun _ _ _ _ _ => pts_nil) (fun _ _ _ _ _ => (pe_ix ix_tup (pv 8) pe_int (fun _ _ => rfl)))) pa_nil))))))
  (pss_one (ps_if (pt_cmpR (op_neD hr.units) (pv 6) (pe_tup (pa_cons pe_str pa_nil)) (nomark _)) (pss_cons (ps_set (i := 7) sc_Lplayed.nd rfl (Or.inl rfl) (Y.pe_c c_Ldone hr (by decide) rfl pass0 (pa_cons (pv 0) (pa_cons (pv 6) pa_nil))))
  (pss_one (ps_if (pt_cmpR op_eq (pe_ix ix_tup (pv 7) pe_int (fun _ _ => rfl)) pe_str (nomark _)) (pss_one (ps_expr (pe_bm PySem.F.plainAttrs_list PySem.F.slot_list_append PySem.F.type_list_append mt_append (pv 3) (pa_cons (pv 5) pa_nil)))) (pss_one (ps_if (pt_cmpR (op_neD hr.units) (Y.pe_c c_Lseen hr (by decide) rfl pass0 (pa_cons (pv 0) pa_nil)) (pv 5) (nomark _)) (pss_one (ps_ret pe_bl)) pss_nil))))) (pss_one (ps_if (pt_cmpR (op_neD hr.units) (pv 3) (pe_lst pa_nil) (nomark _)) (pss_one (ps_if (PW.pt (pw_or (pt_cmpR (op_neD hr.units) (Y.pe_c c_Ldone hr (by decide) rfl pass0 (pa_cons (pv 0) (pa_cons (pv 6) pa_nil))) (pe_tup (pa_cons pe_str (pa_cons pe_non pa_nil))) (nomark _)) (pw_or1 (pt_cmpR (op_neD hr.units) (Y.pe_c c_Lseen hr (by decide) rfl pass0 (pa_cons (pv 0) pa_nil)) (pe_bm0 PySem.F.plainAttrs_list PySem.F.slot_list_pop PySem.F.type_list_pop mt_pop (pv 3)) (nomark _))))) (pss_one (ps_ret pe_bl)) pss_nil)) pss_nil)))))))
  (pss_cons (ps_while PassesOwn.never (pt_cmpR (op_neD hr.units) (pv 3) (pe_lst pa_nil) (nomark _)) (pss_one (ps_if (PW.pt (pw_or (pt_cmpR (op_neD hr.units) (Y.pe_c c_Ldone hr (by decide) rfl pass0 (pa_cons (pv 0) (pa_cons (pe_tup (pa_cons pe_str pa_nil)) pa_nil))) (pe_tup (pa_cons pe_str (pa_cons pe_non pa_nil))) (nomark _)) (pw_or1 (pt_cmpR (op_neD hr.units) (Y.pe_c c_Lseen hr (by decide) rfl pass0 (pa_cons (pv 0) pa_nil)) (pe_bm0 PySem.F.plainAttrs_list PySem.F.slot_list_pop PySem.F.type_list_pop mt_pop (pv 3)) (nomark _))))) (pss_one (ps_ret pe_bl)) pss_nil)))
  (pss_one (ps_ret (pe_and (pe_cmpR (op_eqD hr.units) (Y.pe_c c_Ldone hr (by decide) rfl pass0 (pa_cons (pv 0) (pa_cons (pe_tup (pa_cons pe_str pa_nil)) pa_nil))) (pe_tup (pa_cons pe_str (pa_cons pe_non pa_nil))) (nomark _)) (pe_one (pe_cmpR (op_eqD hr.units) (Y.pe_c c_Ldone hr (by decide) rfl pass0 (pa_cons (pv 0) (pa_cons (pe_tup (pa_cons pe_str pa_nil)) pa_nil))) (pe_tup (pa_cons pe_str (pa_cons pe_non pa_nil))) (nomark _)))))))))
  · obtain ⟨_, _, _, rfl, _⟩ := id h
    exact pure_Lplayed h
theorem ok_law (T : Txt K mg) {f : Addr} {fd : FuncData} (F : FunD K "law" "law" (defArgs s_law) (defBody s_law) (defScope s_law) [] [] f fd) (c_Lbegin : Y.Cal P w K mg base CX0 1 "_law_begin" (sp_Lbegin K) []) (c_Lcell_at : Y.Cal P w K mg base CX0 1 "_law_cell_at" (sp_Lcell_at K) []) (c_Lday : Y.Cal P w K mg base CX0 2 "_law_day" (sp_Lday K) []) (c_Lfew : Y.Cal P w K mg base CX0 5 "_law_few" (sp_Lfew K) []) (c_Ltake : Y.Cal P w K mg base CX0 1 "_law_take" (sp_Ltake K) []) (c_Inn : Y.Mak P w K mg base CX0 8 "Inn" (He.ga K "Inn") (sp_Inn_init K) []) (c_Lseen : Y.Cal P w K mg base CX0 5 "_law_seen" (sp_Lseen K) []) (c_Lplayed : Y.Cal P w K mg base CX0 12 "_law_played" (sp_Lplayed K) []) (c_Lstay : Y.Cal P w K mg base CX0 2 "_law_stay" (sp_Lstay K) []) (c_Ldone : Y.Cal P w K mg base CX0 11 "_law_done" (sp_Ldone K) []) : FnG P w K mg base CX0 13 f fd ["_law_script"] (sp_law K) := by
  refine g_def F sc_law (fun vs H Q E h => ?_) (fun cdv A outer s H vs Q E hr h => ⟨t_law K, PSs.nox ?_, ?_⟩)
  · obtain ⟨_, rfl, _⟩ := h
    rfl
  · exact (pss_cons (ps_set (i := 1) sc_law.nd rfl (Or.inl rfl) (Y.pe_c c_Lbegin hr (by decide) rfl pass0 (pa_cons (Y.pe_c c_Lcell_at hr (by decide) rfl pass0 (pa_cons (pv 0) (pa_cons pe_int pa_nil))) pa_nil)))
  (pss_cons (ps_set (i := 2) sc_law.nd rfl (Or.inl rfl) (Y.pe_c c_Lday hr (by decide) rfl pass0 (pa_cons (pv 1) pa_nil)))
  (pss_cons (ps_set (i := 3) sc_law.nd rfl (Or.inl rfl) (pe_lst (pa_cons (pe_tup (pa_cons pe_str (pa_cons (Y.pe_c c_Lfew hr (by decide) rfl pass0 (pa_cons (pv 1) (pa_cons (pv 2) (pa_cons pe_int pa_nil)))) pa_nil))) (pa_cons (pe_tup (pa_cons pe_str (pa_cons (Y.pe_c c_Lfew hr (by decide) rfl pass0 (pa_cons (pv 1) (pa_cons (pv 2) (pa_cons pe_int pa_nil)))) pa_nil))) pa_nil))))
  (pss_cons (ps_set (i := 4) sc_law.nd rfl (Or.inl rfl) (Y.pe_k c_Inn hr (by decide) rfl pass0 (pa_cons (pe_op op_add pe_int (Y.pe_c c_Ltake hr (by decide) rfl pass0 (pa_cons (pv 1) (pa_cons pe_int pa_nil)))) (pa_cons (pv 3) pa_nil))))
  (pss_cons (ps_set (i := 5) sc_law.nd rfl (Or.inl rfl) (Y.pe_c c_Lseen hr (by decide) rfl pass0 (pa_cons (pv 4) pa_nil)))
  (pss_cons (ps_set (i := 6) sc_law.nd rfl (Or.inl rfl) (pe_slice sl_list (pv 0) (po_some pe_int) (po_some pe_int)))
  (pss_cons (ps_for PassesOwn.never rfl (pi_list (pe_lst (pa_cons (pv 6) (pa_cons (Y.pe_revS (pv 6) (po_some (pe_un un_neg pe_int))) (pa_cons (pe_slice sl_list (pv 6) po_none (po_some pe_int)) pa_nil))))) (pg_name (i := 7) sc_law.nd rfl (Or.inl rfl)) (pss_one (ps_if (PW.pt (pw_or (pt_not (pt_val (Y.pe_c c_Lplayed hr (by decide) rfl pass0 (pa_cons (pv 4) (pa_cons (pv 2) (pa_cons (pv 7) pa_nil)))))) (pw_or1 (pt_cmpR (op_neD hr.units) (Y.pe_c c_Lseen hr (by decide) rfl pass0 (pa_cons (pv 4) pa_nil)) (pv 5) (nomark _))))) (pss_one (ps_ret pe_bl)) pss_nil)))
  (pss_cons (ps_set (i := 8) sc_law.nd rfl (Or.inl rfl) (Y.pe_c c_Lstay hr (by decide) rfl pass0 (pa_cons (pv 1) (pa_cons (pv 2) pa_nil))))
  (pss_cons (ps_set (i := 9) sc_law.nd rfl (Or.inl rfl) (Y.pe_c c_Ldone hr (by decide) rfl pass0 (pa_cons (pv 4) (pa_cons (pe_tup (pa_cons pe_str (pa_cons (pv 8) pa_nil))) pa_nil))))
  (pss_one (ps_ret (pe_or (pe_cmpR op_eq (pe_ix ix_tup (pv 9) pe_int (fun _ _ => rfl)) pe_str (nomark _)) (pe_one (pe_cmpR (op_eqD hr.units) (pv 9) (pe_tup (pa_cons pe_str (pa_cons pe_int pa_nil))) (nomark _)))))))))))))))
  · obtain ⟨_, rfl, _⟩ := id h
    exact pure_law h
end
theorem facts {P : Program} {w : World} {K : PySem.W.Frag} {h : Heap} {mg : Str → Option Value} {f : Addr} (X : K.In h) (G : h.Ns mainGlobals mg) (hfa : mg ("law" : Str) = some (.ref f)) (c : He.SaysD fa fn K) :
    ∃ fd : FuncData, (∀ (s : Shared) (v : Value), BindsTo s fd ⟨[v], []⟩ [("_law_script", v)]) ∧ ∀ base : Heap, K.In base → base.Ns mainGlobals mg → FnG P w K mg base CX0 13 f fd ["_law_script"] (sp_law K) := by
  obtain ⟨fd_Lbegin, F_Lbegin⟩ := c.def_ 0 (d := d_Lbegin) rfl
  obtain ⟨fd_Lcell_at, F_Lcell_at⟩ := c.def_ 1 (d := d_Lcell_at) rfl
  obtain ⟨fd_Ltake, F_Ltake⟩ := c.def_ 2 (d := d_Ltake) rfl
  obtain ⟨fd_Lday, F_Lday⟩ := c.def_ 3 (d := d_Lday) rfl
  obtain ⟨fd_Lcoins, F_Lcoins⟩ := c.def_ 4 (d := d_Lcoins) rfl
  obtain ⟨fd_Lworth, F_Lworth⟩ := c.def_ 5 (d := d_Lworth) rfl
  obtain ⟨fd_Lrule, F_Lrule⟩ := c.def_ 6 (d := d_Lrule) rfl
  obtain ⟨fd_Lfew, F_Lfew⟩ := c.def_ 7 (d := d_Lfew) rfl
  obtain ⟨fd_is_whole, F_is_whole⟩ := c.def_ 8 (d := d_is_whole) rfl
  obtain ⟨fd_is_day, F_is_day⟩ := c.def_ 9 (d := d_is_day) rfl
  obtain ⟨fd_is_two_days, F_is_two_days⟩ := c.def_ 10 (d := d_is_two_days) rfl
  obtain ⟨fd_is_stretch, F_is_stretch⟩ := c.def_ 11 (d := d_is_stretch) rfl
  obtain ⟨fd_Price_init, F_Price_init⟩ := c.def_ 12 (d := d_Price_init) rfl
  obtain ⟨fd_Come_init, F_Come_init⟩ := c.def_ 13 (d := d_Come_init) rfl
  obtain ⟨fd_Go_init, F_Go_init⟩ := c.def_ 14 (d := d_Go_init) rfl
  obtain ⟨fd_Least_init, F_Least_init⟩ := c.def_ 15 (d := d_Least_init) rfl
  obtain ⟨fd_Most_init, F_Most_init⟩ := c.def_ 16 (d := d_Most_init) rfl
  obtain ⟨fd_Deal_init, F_Deal_init⟩ := c.def_ 17 (d := d_Deal_init) rfl
  obtain ⟨fd_Fee_init, F_Fee_init⟩ := c.def_ 18 (d := d_Fee_init) rfl
  obtain ⟨fd_made, F_made⟩ := c.def_ 19 (d := d_made) rfl
  obtain ⟨fd_is_coins, F_is_coins⟩ := c.def_ 20 (d := d_is_coins) rfl
  obtain ⟨fd_Price_fits, F_Price_fits⟩ := c.def_ 21 (d := d_Price_fits) rfl
  obtain ⟨fd_Come_fits, F_Come_fits⟩ := c.def_ 22 (d := d_Come_fits) rfl
  obtain ⟨fd_Go_fits, F_Go_fits⟩ := c.def_ 23 (d := d_Go_fits) rfl
  obtain ⟨fd_is_nights, F_is_nights⟩ := c.def_ 24 (d := d_is_nights) rfl
  obtain ⟨fd_Least_fits, F_Least_fits⟩ := c.def_ 25 (d := d_Least_fits) rfl
  obtain ⟨fd_Most_fits, F_Most_fits⟩ := c.def_ 26 (d := d_Most_fits) rfl
  obtain ⟨fd_Deal_fits, F_Deal_fits⟩ := c.def_ 27 (d := d_Deal_fits) rfl
  obtain ⟨fd_Fee_fits, F_Fee_fits⟩ := c.def_ 28 (d := d_Fee_fits) rfl
  obtain ⟨fd_rule_of, F_rule_of⟩ := c.def_ 29 (d := d_rule_of) rfl
  obtain ⟨fd_Price_word, F_Price_word⟩ := c.def_ 30 (d := d_Price_word) rfl
  obtain ⟨fd_Come_word, F_Come_word⟩ := c.def_ 31 (d := d_Come_word) rfl
  obtain ⟨fd_Go_word, F_Go_word⟩ := c.def_ 32 (d := d_Go_word) rfl
  obtain ⟨fd_Least_word, F_Least_word⟩ := c.def_ 33 (d := d_Least_word) rfl
  obtain ⟨fd_Most_word, F_Most_word⟩ := c.def_ 34 (d := d_Most_word) rfl
  obtain ⟨fd_Deal_word, F_Deal_word⟩ := c.def_ 35 (d := d_Deal_word) rfl
  obtain ⟨fd_Fee_word, F_Fee_word⟩ := c.def_ 36 (d := d_Fee_word) rfl
  obtain ⟨fd_Book_init, F_Book_init⟩ := c.def_ 37 (d := d_Book_init) rfl
  obtain ⟨fd_Inn_init, F_Inn_init⟩ := c.def_ 38 (d := d_Inn_init) rfl
  obtain ⟨fd_Inn_need_name, F_Inn_need_name⟩ := c.def_ 39 (d := d_Inn_need_name) rfl
  obtain ⟨fd_Price_told, F_Price_told⟩ := c.def_ 40 (d := d_Price_told) rfl
  obtain ⟨fd_Come_told, F_Come_told⟩ := c.def_ 41 (d := d_Come_told) rfl
  obtain ⟨fd_Go_told, F_Go_told⟩ := c.def_ 42 (d := d_Go_told) rfl
  obtain ⟨fd_Least_told, F_Least_told⟩ := c.def_ 43 (d := d_Least_told) rfl
  obtain ⟨fd_Most_told, F_Most_told⟩ := c.def_ 44 (d := d_Most_told) rfl
  obtain ⟨fd_Deal_told, F_Deal_told⟩ := c.def_ 45 (d := d_Deal_told) rfl
  obtain ⟨fd_Fee_told, F_Fee_told⟩ := c.def_ 46 (d := d_Fee_told) rfl
  obtain ⟨fd_Book_rules, F_Book_rules⟩ := c.def_ 47 (d := d_Book_rules) rfl
  obtain ⟨fd_Inn_rules_of, F_Inn_rules_of⟩ := c.def_ 48 (d := d_Inn_rules_of) rfl
  obtain ⟨fd_nights_of, F_nights_of⟩ := c.def_ 49 (d := d_nights_of) rfl
  obtain ⟨fd_Inn_full, F_Inn_full⟩ := c.def_ 50 (d := d_Inn_full) rfl
  obtain ⟨fd_Inn_standing, F_Inn_standing⟩ := c.def_ 51 (d := d_Inn_standing) rfl
  obtain ⟨fd_Lseen, F_Lseen⟩ := c.def_ 52 (d := d_Lseen) rfl
  obtain ⟨fd_Lstay, F_Lstay⟩ := c.def_ 53 (d := d_Lstay) rfl
  obtain ⟨fd_Ldeed, F_Ldeed⟩ := c.def_ 54 (d := d_Ldeed) rfl
  obtain ⟨fd_Price_tells, F_Price_tells⟩ := c.def_ 55 (d := d_Price_tells) rfl
  obtain ⟨fd_Come_tells, F_Come_tells⟩ := c.def_ 56 (d := d_Come_tells) rfl
  obtain ⟨fd_Go_tells, F_Go_tells⟩ := c.def_ 57 (d := d_Go_tells) rfl
  obtain ⟨fd_Least_tells, F_Least_tells⟩ := c.def_ 58 (d := d_Least_tells) rfl
  obtain ⟨fd_Most_tells, F_Most_tells⟩ := c.def_ 59 (d := d_Most_tells) rfl
  obtain ⟨fd_Deal_tells, F_Deal_tells⟩ := c.def_ 60 (d := d_Deal_tells) rfl
  obtain ⟨fd_Fee_tells, F_Fee_tells⟩ := c.def_ 61 (d := d_Fee_tells) rfl
  obtain ⟨fd_usual, F_usual⟩ := c.def_ 62 (d := d_usual) rfl
  obtain ⟨fd_Book_tells_of, F_Book_tells_of⟩ := c.def_ 63 (d := d_Book_tells_of) rfl
  obtain ⟨fd_FullBook_tells_of, F_FullBook_tells_of⟩ := c.def_ 64 (d := d_FullBook_tells_of) rfl
  obtain ⟨fd_can_be_had, F_can_be_had⟩ := c.def_ 65 (d := d_can_be_had) rfl
  obtain ⟨fd_marked, F_marked⟩ := c.def_ 66 (d := d_marked) rfl
  obtain ⟨fd_bill, F_bill⟩ := c.def_ 67 (d := d_bill) rfl
  obtain ⟨fd_coins_of, F_coins_of⟩ := c.def_ 68 (d := d_coins_of) rfl
  obtain ⟨fd_parts_from, F_parts_from⟩ := c.def_ 69 (d := d_parts_from) rfl
  obtain ⟨fd_ways, F_ways⟩ := c.def_ 70 (d := d_ways) rfl
  obtain ⟨fd_paper_by, F_paper_by⟩ := c.def_ 71 (d := d_paper_by) rfl
  obtain ⟨fd_cut_by, F_cut_by⟩ := c.def_ 72 (d := d_cut_by) rfl
  obtain ⟨fd_best_cuts, F_best_cuts⟩ := c.def_ 73 (d := d_best_cuts) rfl
  obtain ⟨fd_FullBook_init, F_FullBook_init⟩ := c.def_ 74 (d := d_FullBook_init) rfl
  obtain ⟨fd_Inn_books_now, F_Inn_books_now⟩ := c.def_ 75 (d := d_Inn_books_now) rfl
  obtain ⟨fd_Inn_best, F_Inn_best⟩ := c.def_ 76 (d := d_Inn_best) rfl
  obtain ⟨fd_Off_init, F_Off_init⟩ := c.def_ 77 (d := d_Off_init) rfl
  obtain ⟨fd_Inn_keep, F_Inn_keep⟩ := c.def_ 78 (d := d_Inn_keep) rfl
  obtain ⟨fd_Inn_take, F_Inn_take⟩ := c.def_ 79 (d := d_Inn_take) rfl
  obtain ⟨fd_Inn_give_back, F_Inn_give_back⟩ := c.def_ 80 (d := d_Inn_give_back) rfl
  obtain ⟨fd_NoRule_init, F_NoRule_init⟩ := c.def_ 81 (d := d_NoRule_init) rfl
  obtain ⟨fd_laid, F_laid⟩ := c.def_ 82 (d := d_laid) rfl
  obtain ⟨fd_Inn_lay, F_Inn_lay⟩ := c.def_ 83 (d := d_Inn_lay) rfl
  obtain ⟨fd_bounds_of, F_bounds_of⟩ := c.def_ 84 (d := d_bounds_of) rfl
  obtain ⟨fd_unlike, F_unlike⟩ := c.def_ 85 (d := d_unlike) rfl
  obtain ⟨fd_tidied, F_tidied⟩ := c.def_ 86 (d := d_tidied) rfl
  obtain ⟨fd_Inn_tidy, F_Inn_tidy⟩ := c.def_ 87 (d := d_Inn_tidy) rfl
  obtain ⟨fd_Inn_undo, F_Inn_undo⟩ := c.def_ 88 (d := d_Inn_undo) rfl
  obtain ⟨fd_Ldone, F_Ldone⟩ := c.def_ 89 (d := d_Ldone) rfl
  obtain ⟨fd_Lplayed, F_Lplayed⟩ := c.def_ 90 (d := d_Lplayed) rfl
  obtain ⟨fd_law, F_law⟩ := c.def_ 91 (d := d_law) rfl
  obtain ⟨tk0, ek0⟩ := He.int_ok X G (c.fact 120 (f := .int "LAST_DAY" 1000000) rfl)
  obtain ⟨tk1, ek1⟩ := He.int_ok X G (c.fact 121 (f := .int "MOST_COINS" 1000000000000) rfl)
  obtain ⟨tk2, ek2⟩ := He.int_ok X G (c.fact 122 (f := .int "MOST_NIGHTS" 14) rfl)
  obtain ⟨tk3, ek3⟩ := He.int_ok X G (c.fact 123 (f := .int "MOST_RULES" 24) rfl)
  have T : Txt K mg := ⟨He.free_ok X G (c.fact 104 (f := .free "ValueError") rfl), He.free_ok X G (c.fact 105 (f := .free "bool") rfl), He.free_ok X G (c.fact 106 (f := .free "dict") rfl), He.free_ok X G (c.fact 107 (f := .free "enumerate") rfl), He.free_ok X G (c.fact 108 (f := .free "int") rfl), He.free_ok X G (c.fact 109 (f := .free "isinstance") rfl), He.free_ok X G (c.fact 110 (f := .free "len") rfl), He.free_ok X G (c.fact 111 (f := .free "list") rfl), He.free_ok X G (c.fact 112 (f := .free "max") rfl), He.free_ok X G (c.fact 113 (f := .free "min") rfl), He.free_ok X G (c.fact 114 (f := .free "range") rfl), He.free_ok X G (c.fact 115 (f := .free "set") rfl), He.free_ok X G (c.fact 116 (f := .free "sorted") rfl), He.free_ok X G (c.fact 117 (f := .free "str") rfl), He.free_ok X G (c.fact 118 (f := .free "sum") rfl), He.free_ok X G (c.fact 119 (f := .free "tuple") rfl), ⟨_, ek0, tk0, rfl⟩, ⟨_, ek1, tk1, rfl⟩, ⟨_, ek2, tk2, rfl⟩, ⟨_, ek3, tk3, rfl⟩, ⟨_, He.glo_ok X G (c.fact 124 (f := .glo "WORDS") rfl), rfl⟩, He.glo_ok X G (c.fact 125 (f := .glo "Book") rfl), He.glo_ok X G (c.fact 126 (f := .glo "Come") rfl), He.glo_ok X G (c.fact 127 (f := .glo "Deal") rfl), He.glo_ok X G (c.fact 128 (f := .glo "Fee") rfl), He.glo_ok X G (c.fact 129 (f := .glo "FullBook") rfl), He.glo_ok X G (c.fact 130 (f := .glo "Go") rfl), He.glo_ok X G (c.fact 131 (f := .glo "Inn") rfl), He.glo_ok X G (c.fact 132 (f := .glo "Least") rfl), He.glo_ok X G (c.fact 133 (f := .glo "Most") rfl), He.glo_ok X G (c.fact 134 (f := .glo "NoDeed") rfl), He.glo_ok X G (c.fact 135 (f := .glo "NoName") rfl), He.glo_ok X G (c.fact 92 (f := .glo "NoRule") rfl), He.glo_ok X G (c.fact 136 (f := .glo "NoTaken") rfl), He.glo_ok X G (c.fact 87 (f := .glo "Off") rfl), He.glo_ok X G (c.fact 137 (f := .glo "Price") rfl), He.glo_ok X G (c.fact 138 (f := .glo "StayError") rfl), He.glo_ok X G (c.fact 139 (f := .glo "TooMany") rfl)⟩
  have e := hfa.symm.trans (He.glo_ok X G (c.fact 103 (f := .glo "law") rfl))
  cases e
  have b := FunD.bindsA (ps := ["_law_script"]) F_law fun _ _ _ _ _ _ us hl => match us, hl with | [_], _ => rfl
  refine ⟨fd_law, fun s v => b s [v] rfl, fun base _ _ => ?_⟩
  have c_Lbegin : Y.Cal P w K mg base CX0 1 "_law_begin" (sp_Lbegin K) [] := ⟨_, fd_Lbegin, ["_law_cell"], [], ok_Lbegin T F_Lbegin , He.glo_ok X G (c.fact 0 (f := .glo "_law_begin") rfl), F_Lbegin.kp, F_Lbegin.bindsN fun _ _ _ _ _ _ us hl => match us, hl with | [_], _ => rfl, .nil⟩
  have c_Lcell_at : Y.Cal P w K mg base CX0 1 "_law_cell_at" (sp_Lcell_at K) [] := ⟨_, fd_Lcell_at, ["_law_script", "_law_k"], [], ok_Lcell_at T F_Lcell_at , He.glo_ok X G (c.fact 1 (f := .glo "_law_cell_at") rfl), F_Lcell_at.kp, F_Lcell_at.bindsN fun _ _ _ _ _ _ us hl => match us, hl with | [_, _], _ => rfl, .nil⟩
  have c_Ltake : Y.Cal P w K mg base CX0 1 "_law_take" (sp_Ltake K) [] := ⟨_, fd_Ltake, ["_law_row", "_law_base"], [], ok_Ltake T F_Ltake , He.glo_ok X G (c.fact 2 (f := .glo "_law_take") rfl), F_Ltake.kp, F_Ltake.bindsN fun _ _ _ _ _ _ us hl => match us, hl with | [_, _], _ => rfl, .nil⟩
  have c_Lday : Y.Cal P w K mg base CX0 2 "_law_day" (sp_Lday K) [] := ⟨_, fd_Lday, ["_law_row"], [], ok_Lday T F_Lday c_Ltake, He.glo_ok X G (c.fact 3 (f := .glo "_law_day") rfl), F_Lday.kp, F_Lday.bindsN fun _ _ _ _ _ _ us hl => match us, hl with | [_], _ => rfl, .nil⟩
  have c_Lcoins : Y.Cal P w K mg base CX0 2 "_law_coins" (sp_Lcoins K) [] := ⟨_, fd_Lcoins, ["_law_row"], [], ok_Lcoins T F_Lcoins c_Ltake, He.glo_ok X G (c.fact 4 (f := .glo "_law_coins") rfl), F_Lcoins.kp, F_Lcoins.bindsN fun _ _ _ _ _ _ us hl => match us, hl with | [_], _ => rfl, .nil⟩
  have c_Lworth : Y.Cal P w K mg base CX0 3 "_law_worth" (sp_Lworth K) [] := ⟨_, fd_Lworth, ["_law_row", "_law_word"], [], ok_Lworth T F_Lworth c_Ltake c_Lcoins, He.glo_ok X G (c.fact 5 (f := .glo "_law_worth") rfl), F_Lworth.kp, F_Lworth.bindsN fun _ _ _ _ _ _ us hl => match us, hl with | [_, _], _ => rfl, .nil⟩
  have c_Lrule : Y.Cal P w K mg base CX0 4 "_law_rule" (sp_Lrule K) [] := ⟨_, fd_Lrule, ["_law_row", "_law_day_here"], [], ok_Lrule T F_Lrule c_Ltake c_Lworth, He.glo_ok X G (c.fact 6 (f := .glo "_law_rule") rfl), F_Lrule.kp, F_Lrule.bindsN fun _ _ _ _ _ _ us hl => match us, hl with | [_, _], _ => rfl, .nil⟩
  have c_Lfew : Y.Cal P w K mg base CX0 5 "_law_few" (sp_Lfew K) [] := ⟨_, fd_Lfew, ["_law_row", "_law_day_here", "_law_most"], [], ok_Lfew T F_Lfew c_Ltake c_Lrule, He.glo_ok X G (c.fact 7 (f := .glo "_law_few") rfl), F_Lfew.kp, F_Lfew.bindsN fun _ _ _ _ _ _ us hl => match us, hl with | [_, _, _], _ => rfl, .nil⟩
  have c_is_whole : Y.Cal P w K mg base CX0 1 "is_whole" (sp_is_whole K) [] := ⟨_, fd_is_whole, ["thing"], [], ok_is_whole T F_is_whole , He.glo_ok X G (c.fact 8 (f := .glo "is_whole") rfl), F_is_whole.kp, F_is_whole.bindsN fun _ _ _ _ _ _ us hl => match us, hl with | [_], _ => rfl, .nil⟩
  have c_is_day : Y.Cal P w K mg base CX0 2 "is_day" (sp_is_day K) [] := ⟨_, fd_is_day, ["thing"], [], ok_is_day T F_is_day c_is_whole, He.glo_ok X G (c.fact 9 (f := .glo "is_day") rfl), F_is_day.kp, F_is_day.bindsN fun _ _ _ _ _ _ us hl => match us, hl with | [_], _ => rfl, .nil⟩
  have c_is_two_days : Y.Cal P w K mg base CX0 3 "is_two_days" (sp_is_two_days K) [] := ⟨_, fd_is_two_days, ["thing"], [], ok_is_two_days T F_is_two_days c_is_day, He.glo_ok X G (c.fact 10 (f := .glo "is_two_days") rfl), F_is_two_days.kp, F_is_two_days.bindsN fun _ _ _ _ _ _ us hl => match us, hl with | [_], _ => rfl, .nil⟩
  have c_is_stretch : Y.Cal P w K mg base CX0 4 "is_stretch" (sp_is_stretch K) [] := ⟨_, fd_is_stretch, ["thing"], [], ok_is_stretch T F_is_stretch c_is_two_days, He.glo_ok X G (c.fact 11 (f := .glo "is_stretch") rfl), F_is_stretch.kp, F_is_stretch.bindsN fun _ _ _ _ _ _ us hl => match us, hl with | [_], _ => rfl, .nil⟩
  have c_Price : Y.Mak P w K mg base CX0 1 "Price" (He.ga K "Price") (sp_Rule_init K) [] := ⟨_, fd_Price_init, ["self", "first", "last", "worth"], [], He.mkr_ok (c.fact 12 (f := .mkr "Price") rfl), ok_Rule_init T F_Price_init , He.glo_ok X G (c.fact 137 (f := .glo "Price") rfl), F_Price_init.bindsN fun _ _ _ _ _ _ us hl => match us, hl with | [_, _, _, _], _ => rfl, .nil⟩
  have c_Come : Y.Mak P w K mg base CX0 1 "Come" (He.ga K "Come") (sp_Rule_init K) [] := ⟨_, fd_Come_init, ["self", "first", "last", "worth"], [], He.mkr_ok (c.fact 13 (f := .mkr "Come") rfl), ok_Rule_init T F_Come_init , He.glo_ok X G (c.fact 126 (f := .glo "Come") rfl), F_Come_init.bindsN fun _ _ _ _ _ _ us hl => match us, hl with | [_, _, _, _], _ => rfl, .nil⟩
  have c_Go : Y.Mak P w K mg base CX0 1 "Go" (He.ga K "Go") (sp_Rule_init K) [] := ⟨_, fd_Go_init, ["self", "first", "last", "worth"], [], He.mkr_ok (c.fact 14 (f := .mkr "Go") rfl), ok_Rule_init T F_Go_init , He.glo_ok X G (c.fact 130 (f := .glo "Go") rfl), F_Go_init.bindsN fun _ _ _ _ _ _ us hl => match us, hl with | [_, _, _, _], _ => rfl, .nil⟩
  have c_Least : Y.Mak P w K mg base CX0 1 "Least" (He.ga K "Least") (sp_Rule_init K) [] := ⟨_, fd_Least_init, ["self", "first", "last", "worth"], [], He.mkr_ok (c.fact 15 (f := .mkr "Least") rfl), ok_Rule_init T F_Least_init , He.glo_ok X G (c.fact 132 (f := .glo "Least") rfl), F_Least_init.bindsN fun _ _ _ _ _ _ us hl => match us, hl with | [_, _, _, _], _ => rfl, .nil⟩
  have c_Most : Y.Mak P w K mg base CX0 1 "Most" (He.ga K "Most") (sp_Rule_init K) [] := ⟨_, fd_Most_init, ["self", "first", "last", "worth"], [], He.mkr_ok (c.fact 16 (f := .mkr "Most") rfl), ok_Rule_init T F_Most_init , He.glo_ok X G (c.fact 133 (f := .glo "Most") rfl), F_Most_init.bindsN fun _ _ _ _ _ _ us hl => match us, hl with | [_, _, _, _], _ => rfl, .nil⟩
  have c_Deal : Y.Mak P w K mg base CX0 1 "Deal" (He.ga K "Deal") (sp_Rule_init K) [] := ⟨_, fd_Deal_init, ["self", "first", "last", "worth"], [], He.mkr_ok (c.fact 17 (f := .mkr "Deal") rfl), ok_Rule_init T F_Deal_init , He.glo_ok X G (c.fact 127 (f := .glo "Deal") rfl), F_Deal_init.bindsN fun _ _ _ _ _ _ us hl => match us, hl with | [_, _, _, _], _ => rfl, .nil⟩
  have c_Fee : Y.Mak P w K mg base CX0 1 "Fee" (He.ga K "Fee") (sp_Rule_init K) [] := ⟨_, fd_Fee_init, ["self", "first", "last", "worth"], [], He.mkr_ok (c.fact 18 (f := .mkr "Fee") rfl), ok_Rule_init T F_Fee_init , He.glo_ok X G (c.fact 128 (f := .glo "Fee") rfl), F_Fee_init.bindsN fun _ _ _ _ _ _ us hl => match us, hl with | [_, _, _, _], _ => rfl, .nil⟩
  have c_made : Y.Cal P w K mg base CX0 3 "made" (sp_made K) [] := ⟨_, fd_made, ["word", "first", "last", "worth"], [], ok_made T F_made c_Price c_Come c_Go c_Least c_Most c_Deal c_Fee, He.glo_ok X G (c.fact 19 (f := .glo "made") rfl), F_made.kp, F_made.bindsN fun _ _ _ _ _ _ us hl => match us, hl with | [_, _, _, _], _ => rfl, .nil⟩
  have c_is_coins : Y.Cal P w K mg base CX0 2 "is_coins" (sp_is_coins K) [] := ⟨_, fd_is_coins, ["thing"], [], ok_is_coins T F_is_coins c_is_whole, He.glo_ok X G (c.fact 20 (f := .glo "is_coins") rfl), F_is_coins.kp, F_is_coins.bindsN fun _ _ _ _ _ _ us hl => match us, hl with | [_], _ => rfl, .nil⟩
  have c_Price_fits : Y.Met P w K mg base CX0 3 (He.ga K "Price") "fits" (sp_Price_fits K) [] := ⟨_, fd_Price_fits, ["self"], [], He.cls_ok (c.fact 21 (f := .cls "Price") rfl), He.meth_ok (c.fact 22 (f := .meth "Price" "fits") rfl), ok_Price_fits T F_Price_fits c_is_coins, F_Price_fits.bindsN fun _ _ _ _ _ _ us hl => match us, hl with | [_], _ => rfl, .nil⟩
  have c_Come_fits : Y.Met P w K mg base CX0 1 (He.ga K "Come") "fits" (sp_Come_fits K) [] := ⟨_, fd_Come_fits, ["self"], [], He.cls_ok (c.fact 23 (f := .cls "Come") rfl), He.meth_ok (c.fact 24 (f := .meth "Come" "fits") rfl), ok_Come_fits T F_Come_fits , F_Come_fits.bindsN fun _ _ _ _ _ _ us hl => match us, hl with | [_], _ => rfl, .nil⟩
  have c_Go_fits : Y.Met P w K mg base CX0 1 (He.ga K "Go") "fits" (sp_Go_fits K) [] := ⟨_, fd_Go_fits, ["self"], [], He.cls_ok (c.fact 25 (f := .cls "Go") rfl), He.meth_ok (c.fact 26 (f := .meth "Go" "fits") rfl), ok_Go_fits T F_Go_fits , F_Go_fits.bindsN fun _ _ _ _ _ _ us hl => match us, hl with | [_], _ => rfl, .nil⟩
  have c_is_nights : Y.Cal P w K mg base CX0 2 "is_nights" (sp_is_nights K) [] := ⟨_, fd_is_nights, ["thing"], [], ok_is_nights T F_is_nights c_is_whole, He.glo_ok X G (c.fact 27 (f := .glo "is_nights") rfl), F_is_nights.kp, F_is_nights.bindsN fun _ _ _ _ _ _ us hl => match us, hl with | [_], _ => rfl, .nil⟩
  have c_Least_fits : Y.Met P w K mg base CX0 3 (He.ga K "Least") "fits" (sp_Least_fits K) [] := ⟨_, fd_Least_fits, ["self"], [], He.cls_ok (c.fact 28 (f := .cls "Least") rfl), He.meth_ok (c.fact 29 (f := .meth "Least" "fits") rfl), ok_Least_fits T F_Least_fits c_is_nights, F_Least_fits.bindsN fun _ _ _ _ _ _ us hl => match us, hl with | [_], _ => rfl, .nil⟩
  have c_Most_fits : Y.Met P w K mg base CX0 3 (He.ga K "Most") "fits" (sp_Most_fits K) [] := ⟨_, fd_Most_fits, ["self"], [], He.cls_ok (c.fact 30 (f := .cls "Most") rfl), He.meth_ok (c.fact 31 (f := .meth "Most" "fits") rfl), ok_Most_fits T F_Most_fits c_is_nights, F_Most_fits.bindsN fun _ _ _ _ _ _ us hl => match us, hl with | [_], _ => rfl, .nil⟩
  have c_Deal_fits : Y.Met P w K mg base CX0 3 (He.ga K "Deal") "fits" (sp_Deal_fits K) [] := ⟨_, fd_Deal_fits, ["self"], [], He.cls_ok (c.fact 32 (f := .cls "Deal") rfl), He.meth_ok (c.fact 33 (f := .meth "Deal" "fits") rfl), ok_Deal_fits T F_Deal_fits c_is_nights c_is_whole, F_Deal_fits.bindsN fun _ _ _ _ _ _ us hl => match us, hl with | [_], _ => rfl, .nil⟩
  have c_Fee_fits : Y.Met P w K mg base CX0 3 (He.ga K "Fee") "fits" (sp_Fee_fits K) [] := ⟨_, fd_Fee_fits, ["self"], [], He.cls_ok (c.fact 34 (f := .cls "Fee") rfl), He.meth_ok (c.fact 35 (f := .meth "Fee" "fits") rfl), ok_Fee_fits T F_Fee_fits c_is_coins, F_Fee_fits.bindsN fun _ _ _ _ _ _ us hl => match us, hl with | [_], _ => rfl, .nil⟩
  have c_rule_of : Y.Cal P w K mg base CX0 5 "rule_of" (sp_rule_of K) [] := ⟨_, fd_rule_of, ["thing"], [], ok_rule_of T F_rule_of c_is_stretch c_made c_Price_fits c_Come_fits c_Go_fits c_Least_fits c_Most_fits c_Deal_fits c_Fee_fits, He.glo_ok X G (c.fact 36 (f := .glo "rule_of") rfl), F_rule_of.kp, F_rule_of.bindsN fun _ _ _ _ _ _ us hl => match us, hl with | [_], _ => rfl, .nil⟩
  have c_Price_word : Y.Met P w K mg base CX0 1 (He.ga K "Price") "word" (sp_Price_word K) [] := ⟨_, fd_Price_word, ["self"], [], He.cls_ok (c.fact 21 (f := .cls "Price") rfl), He.meth_ok (c.fact 37 (f := .meth "Price" "word") rfl), ok_Price_word T F_Price_word , F_Price_word.bindsN fun _ _ _ _ _ _ us hl => match us, hl with | [_], _ => rfl, .nil⟩
  have c_Come_word : Y.Met P w K mg base CX0 1 (He.ga K "Come") "word" (sp_Come_word K) [] := ⟨_, fd_Come_word, ["self"], [], He.cls_ok (c.fact 23 (f := .cls "Come") rfl), He.meth_ok (c.fact 38 (f := .meth "Come" "word") rfl), ok_Come_word T F_Come_word , F_Come_word.bindsN fun _ _ _ _ _ _ us hl => match us, hl with | [_], _ => rfl, .nil⟩
  have c_Go_word : Y.Met P w K mg base CX0 1 (He.ga K "Go") "word" (sp_Go_word K) [] := ⟨_, fd_Go_word, ["self"], [], He.cls_ok (c.fact 25 (f := .cls "Go") rfl), He.meth_ok (c.fact 39 (f := .meth "Go" "word") rfl), ok_Go_word T F_Go_word , F_Go_word.bindsN fun _ _ _ _ _ _ us hl => match us, hl with | [_], _ => rfl, .nil⟩
  have c_Least_word : Y.Met P w K mg base CX0 1 (He.ga K "Least") "word" (sp_Least_word K) [] := ⟨_, fd_Least_word, ["self"], [], He.cls_ok (c.fact 28 (f := .cls "Least") rfl), He.meth_ok (c.fact 40 (f := .meth "Least" "word") rfl), ok_Least_word T F_Least_word , F_Least_word.bindsN fun _ _ _ _ _ _ us hl => match us, hl with | [_], _ => rfl, .nil⟩
  have c_Most_word : Y.Met P w K mg base CX0 1 (He.ga K "Most") "word" (sp_Most_word K) [] := ⟨_, fd_Most_word, ["self"], [], He.cls_ok (c.fact 30 (f := .cls "Most") rfl), He.meth_ok (c.fact 41 (f := .meth "Most" "word") rfl), ok_Most_word T F_Most_word , F_Most_word.bindsN fun _ _ _ _ _ _ us hl => match us, hl with | [_], _ => rfl, .nil⟩
  have c_Deal_word : Y.Met P w K mg base CX0 1 (He.ga K "Deal") "word" (sp_Deal_word K) [] := ⟨_, fd_Deal_word, ["self"], [], He.cls_ok (c.fact 32 (f := .cls "Deal") rfl), He.meth_ok (c.fact 42 (f := .meth "Deal" "word") rfl), ok_Deal_word T F_Deal_word , F_Deal_word.bindsN fun _ _ _ _ _ _ us hl => match us, hl with | [_], _ => rfl, .nil⟩
  have c_Fee_word : Y.Met P w K mg base CX0 1 (He.ga K "Fee") "word" (sp_Fee_word K) [] := ⟨_, fd_Fee_word, ["self"], [], He.cls_ok (c.fact 34 (f := .cls "Fee") rfl), He.meth_ok (c.fact 43 (f := .meth "Fee" "word") rfl), ok_Fee_word T F_Fee_word , F_Fee_word.bindsN fun _ _ _ _ _ _ us hl => match us, hl with | [_], _ => rfl, .nil⟩
  obtain ⟨ds_c_Book, vs_c_Book, bs_c_Book⟩ := FunD.binds1 (ps := ["self", "rules"]) F_Book_init 2 1 (List.cons_ne_nil _ _) rfl fun _ _ _ _ _ _ _ us its hu hi => match us, its, hu, hi with | [_, _], [_], _, _ => ⟨_, rfl, rfl⟩
  have c_Book : Y.Mak P w K mg base CX0 6 "Book" (He.ga K "Book") (sp_Book_init K) [] := ⟨_, fd_Book_init, ["self", "rules"], ds_c_Book, He.mkr_ok (c.fact 44 (f := .mkr "Book") rfl), ok_Book_init T F_Book_init c_rule_of c_Price_word c_Come_word c_Go_word c_Least_word c_Most_word c_Deal_word c_Fee_word, He.glo_ok X G (c.fact 125 (f := .glo "Book") rfl), bs_c_Book, vs_c_Book⟩
  have c_Inn : Y.Mak P w K mg base CX0 8 "Inn" (He.ga K "Inn") (sp_Inn_init K) [] := ⟨_, fd_Inn_init, ["self", "rooms", "books"], [], He.mkr_ok (c.fact 45 (f := .mkr "Inn") rfl), ok_Inn_init T F_Inn_init c_Book, He.glo_ok X G (c.fact 131 (f := .glo "Inn") rfl), F_Inn_init.bindsN fun _ _ _ _ _ _ us hl => match us, hl with | [_, _, _], _ => rfl, .nil⟩
  have c_Inn_need_name : Y.Met P w K mg base CX0 1 (He.ga K "Inn") "need_name" (sp_Inn_need_name K) [] := ⟨_, fd_Inn_need_name, ["self", "name"], [], He.cls_ok (c.fact 46 (f := .cls "Inn") rfl), He.meth_ok (c.fact 47 (f := .meth "Inn" "need_name") rfl), ok_Inn_need_name T F_Inn_need_name , F_Inn_need_name.bindsN fun _ _ _ _ _ _ us hl => match us, hl with | [_, _], _ => rfl, .nil⟩
  have c_Price_told : Y.Met P w K mg base CX0 2 (He.ga K "Price") "told" (sp_Rule_told K) [] := ⟨_, fd_Price_told, ["self"], [], He.cls_ok (c.fact 21 (f := .cls "Price") rfl), He.meth_ok (c.fact 48 (f := .meth "Price" "told") rfl), ok_Rule_told T F_Price_told c_Price_word c_Come_word c_Go_word c_Least_word c_Most_word c_Deal_word c_Fee_word, F_Price_told.bindsN fun _ _ _ _ _ _ us hl => match us, hl with | [_], _ => rfl, .nil⟩
  have c_Come_told : Y.Met P w K mg base CX0 2 (He.ga K "Come") "told" (sp_Rule_told K) [] := ⟨_, fd_Come_told, ["self"], [], He.cls_ok (c.fact 23 (f := .cls "Come") rfl), He.meth_ok (c.fact 49 (f := .meth "Come" "told") rfl), ok_Rule_told T F_Come_told c_Price_word c_Come_word c_Go_word c_Least_word c_Most_word c_Deal_word c_Fee_word, F_Come_told.bindsN fun _ _ _ _ _ _ us hl => match us, hl with | [_], _ => rfl, .nil⟩
  have c_Go_told : Y.Met P w K mg base CX0 2 (He.ga K "Go") "told" (sp_Rule_told K) [] := ⟨_, fd_Go_told, ["self"], [], He.cls_ok (c.fact 25 (f := .cls "Go") rfl), He.meth_ok (c.fact 50 (f := .meth "Go" "told") rfl), ok_Rule_told T F_Go_told c_Price_word c_Come_word c_Go_word c_Least_word c_Most_word c_Deal_word c_Fee_word, F_Go_told.bindsN fun _ _ _ _ _ _ us hl => match us, hl with | [_], _ => rfl, .nil⟩
  have c_Least_told : Y.Met P w K mg base CX0 2 (He.ga K "Least") "told" (sp_Rule_told K) [] := ⟨_, fd_Least_told, ["self"], [], He.cls_ok (c.fact 28 (f := .cls "Least") rfl), He.meth_ok (c.fact 51 (f := .meth "Least" "told") rfl), ok_Rule_told T F_Least_told c_Price_word c_Come_word c_Go_word c_Least_word c_Most_word c_Deal_word c_Fee_word, F_Least_told.bindsN fun _ _ _ _ _ _ us hl => match us, hl with | [_], _ => rfl, .nil⟩
  have c_Most_told : Y.Met P w K mg base CX0 2 (He.ga K "Most") "told" (sp_Rule_told K) [] := ⟨_, fd_Most_told, ["self"], [], He.cls_ok (c.fact 30 (f := .cls "Most") rfl), He.meth_ok (c.fact 52 (f := .meth "Most" "told") rfl), ok_Rule_told T F_Most_told c_Price_word c_Come_word c_Go_word c_Least_word c_Most_word c_Deal_word c_Fee_word, F_Most_told.bindsN fun _ _ _ _ _ _ us hl => match us, hl with | [_], _ => rfl, .nil⟩
  have c_Deal_told : Y.Met P w K mg base CX0 2 (He.ga K "Deal") "told" (sp_Rule_told K) [] := ⟨_, fd_Deal_told, ["self"], [], He.cls_ok (c.fact 32 (f := .cls "Deal") rfl), He.meth_ok (c.fact 53 (f := .meth "Deal" "told") rfl), ok_Rule_told T F_Deal_told c_Price_word c_Come_word c_Go_word c_Least_word c_Most_word c_Deal_word c_Fee_word, F_Deal_told.bindsN fun _ _ _ _ _ _ us hl => match us, hl with | [_], _ => rfl, .nil⟩
  have c_Fee_told : Y.Met P w K mg base CX0 2 (He.ga K "Fee") "told" (sp_Rule_told K) [] := ⟨_, fd_Fee_told, ["self"], [], He.cls_ok (c.fact 34 (f := .cls "Fee") rfl), He.meth_ok (c.fact 54 (f := .meth "Fee" "told") rfl), ok_Rule_told T F_Fee_told c_Price_word c_Come_word c_Go_word c_Least_word c_Most_word c_Deal_word c_Fee_word, F_Fee_told.bindsN fun _ _ _ _ _ _ us hl => match us, hl with | [_], _ => rfl, .nil⟩
  have c_Book_rules : Y.Met P w K mg base CX0 3 (He.ga K "Book") "rules" (sp_Book_rules K) [] := ⟨_, fd_Book_rules, ["self"], [], He.cls_ok (c.fact 55 (f := .cls "Book") rfl), He.meth_ok (c.fact 56 (f := .meth "Book" "rules") rfl), ok_Book_rules T F_Book_rules c_Price_told c_Come_told c_Go_told c_Least_told c_Most_told c_Deal_told c_Fee_told, F_Book_rules.bindsN fun _ _ _ _ _ _ us hl => match us, hl with | [_], _ => rfl, .nil⟩
  have c_Inn_rules_of : Y.Met P w K mg base CX0 4 (He.ga K "Inn") "rules_of" (sp_Inn_rules_of K) [] := ⟨_, fd_Inn_rules_of, ["self", "name"], [], He.cls_ok (c.fact 46 (f := .cls "Inn") rfl), He.meth_ok (c.fact 57 (f := .meth "Inn" "rules_of") rfl), ok_Inn_rules_of T F_Inn_rules_of c_Inn_need_name c_Book_rules, F_Inn_rules_of.bindsN fun _ _ _ _ _ _ us hl => match us, hl with | [_, _], _ => rfl, .nil⟩
  have c_nights_of : Y.Cal P w K mg base CX0 1 "nights_of" (sp_nights_of K) [] := ⟨_, fd_nights_of, ["stay"], [], ok_nights_of T F_nights_of , He.glo_ok X G (c.fact 58 (f := .glo "nights_of") rfl), F_nights_of.kp, F_nights_of.bindsN fun _ _ _ _ _ _ us hl => match us, hl with | [_], _ => rfl, .nil⟩
  have c_Inn_full : Y.Met P w K mg base CX0 2 (He.ga K "Inn") "full" (sp_Inn_full K) [] := ⟨_, fd_Inn_full, ["self"], [], He.cls_ok (c.fact 46 (f := .cls "Inn") rfl), He.meth_ok (c.fact 59 (f := .meth "Inn" "full") rfl), ok_Inn_full T F_Inn_full c_nights_of, F_Inn_full.bindsN fun _ _ _ _ _ _ us hl => match us, hl with | [_], _ => rfl, .nil⟩
  have c_Inn_standing : Y.Met P w K mg base CX0 1 (He.ga K "Inn") "standing" (sp_Inn_standing K) [] := ⟨_, fd_Inn_standing, ["self"], [], He.cls_ok (c.fact 46 (f := .cls "Inn") rfl), He.meth_ok (c.fact 60 (f := .meth "Inn" "standing") rfl), ok_Inn_standing T F_Inn_standing , F_Inn_standing.bindsN fun _ _ _ _ _ _ us hl => match us, hl with | [_], _ => rfl, .nil⟩
  have c_Lseen : Y.Cal P w K mg base CX0 5 "_law_seen" (sp_Lseen K) [] := ⟨_, fd_Lseen, ["_law_inn"], [], ok_Lseen T F_Lseen c_Inn_rules_of c_Inn_full c_Inn_standing, He.glo_ok X G (c.fact 61 (f := .glo "_law_seen") rfl), F_Lseen.kp, F_Lseen.bindsN fun _ _ _ _ _ _ us hl => match us, hl with | [_], _ => rfl, .nil⟩
  have c_Lstay : Y.Cal P w K mg base CX0 2 "_law_stay" (sp_Lstay K) [] := ⟨_, fd_Lstay, ["_law_row", "_law_day_here"], [], ok_Lstay T F_Lstay c_Ltake, He.glo_ok X G (c.fact 62 (f := .glo "_law_stay") rfl), F_Lstay.kp, F_Lstay.bindsN fun _ _ _ _ _ _ us hl => match us, hl with | [_, _], _ => rfl, .nil⟩
  have c_Ldeed : Y.Cal P w K mg base CX0 5 "_law_deed" (sp_Ldeed K) [] := ⟨_, fd_Ldeed, ["_law_row", "_law_day_here", "_law_rules", "_law_taken"], [], ok_Ldeed T F_Ldeed c_Ltake c_Lstay c_Lrule, He.glo_ok X G (c.fact 63 (f := .glo "_law_deed") rfl), F_Ldeed.kp, F_Ldeed.bindsN fun _ _ _ _ _ _ us hl => match us, hl with | [_, _, _, _], _ => rfl, .nil⟩
  have c_Price_tells : Y.Met P w K mg base CX0 1 (He.ga K "Price") "tells" (sp_Rule_tells K) [] := ⟨_, fd_Price_tells, ["self", "day"], [], He.cls_ok (c.fact 21 (f := .cls "Price") rfl), He.meth_ok (c.fact 64 (f := .meth "Price" "tells") rfl), ok_Rule_tells T F_Price_tells , F_Price_tells.bindsN fun _ _ _ _ _ _ us hl => match us, hl with | [_, _], _ => rfl, .nil⟩
  have c_Come_tells : Y.Met P w K mg base CX0 1 (He.ga K "Come") "tells" (sp_Rule_tells K) [] := ⟨_, fd_Come_tells, ["self", "day"], [], He.cls_ok (c.fact 23 (f := .cls "Come") rfl), He.meth_ok (c.fact 65 (f := .meth "Come" "tells") rfl), ok_Rule_tells T F_Come_tells , F_Come_tells.bindsN fun _ _ _ _ _ _ us hl => match us, hl with | [_, _], _ => rfl, .nil⟩
  have c_Go_tells : Y.Met P w K mg base CX0 1 (He.ga K "Go") "tells" (sp_Rule_tells K) [] := ⟨_, fd_Go_tells, ["self", "day"], [], He.cls_ok (c.fact 25 (f := .cls "Go") rfl), He.meth_ok (c.fact 66 (f := .meth "Go" "tells") rfl), ok_Rule_tells T F_Go_tells , F_Go_tells.bindsN fun _ _ _ _ _ _ us hl => match us, hl with | [_, _], _ => rfl, .nil⟩
  have c_Least_tells : Y.Met P w K mg base CX0 1 (He.ga K "Least") "tells" (sp_Rule_tells K) [] := ⟨_, fd_Least_tells, ["self", "day"], [], He.cls_ok (c.fact 28 (f := .cls "Least") rfl), He.meth_ok (c.fact 67 (f := .meth "Least" "tells") rfl), ok_Rule_tells T F_Least_tells , F_Least_tells.bindsN fun _ _ _ _ _ _ us hl => match us, hl with | [_, _], _ => rfl, .nil⟩
  have c_Most_tells : Y.Met P w K mg base CX0 1 (He.ga K "Most") "tells" (sp_Rule_tells K) [] := ⟨_, fd_Most_tells, ["self", "day"], [], He.cls_ok (c.fact 30 (f := .cls "Most") rfl), He.meth_ok (c.fact 68 (f := .meth "Most" "tells") rfl), ok_Rule_tells T F_Most_tells , F_Most_tells.bindsN fun _ _ _ _ _ _ us hl => match us, hl with | [_, _], _ => rfl, .nil⟩
  have c_Deal_tells : Y.Met P w K mg base CX0 1 (He.ga K "Deal") "tells" (sp_Rule_tells K) [] := ⟨_, fd_Deal_tells, ["self", "day"], [], He.cls_ok (c.fact 32 (f := .cls "Deal") rfl), He.meth_ok (c.fact 69 (f := .meth "Deal" "tells") rfl), ok_Rule_tells T F_Deal_tells , F_Deal_tells.bindsN fun _ _ _ _ _ _ us hl => match us, hl with | [_, _], _ => rfl, .nil⟩
  have c_Fee_tells : Y.Met P w K mg base CX0 1 (He.ga K "Fee") "tells" (sp_Rule_tells K) [] := ⟨_, fd_Fee_tells, ["self", "day"], [], He.cls_ok (c.fact 34 (f := .cls "Fee") rfl), He.meth_ok (c.fact 70 (f := .meth "Fee" "tells") rfl), ok_Rule_tells T F_Fee_tells , F_Fee_tells.bindsN fun _ _ _ _ _ _ us hl => match us, hl with | [_, _], _ => rfl, .nil⟩
  have c_usual : Y.Cal P w K mg base CX0 1 "usual" (sp_usual K) [] := ⟨_, fd_usual, ["word"], [], ok_usual T F_usual , He.glo_ok X G (c.fact 71 (f := .glo "usual") rfl), F_usual.kp, F_usual.bindsN fun _ _ _ _ _ _ us hl => match us, hl with | [_], _ => rfl, .nil⟩
  have c_Book_tells_of : Y.Met P w K mg base CX0 2 (He.ga K "Book") "tells_of" (sp_Book_tells_of K) [] := ⟨_, fd_Book_tells_of, ["self", "word", "day"], [], He.cls_ok (c.fact 55 (f := .cls "Book") rfl), He.meth_ok (c.fact 72 (f := .meth "Book" "tells_of") rfl), ok_Book_tells_of T F_Book_tells_of c_Price_tells c_Come_tells c_Go_tells c_Least_tells c_Most_tells c_Deal_tells c_Fee_tells c_usual, F_Book_tells_of.bindsN fun _ _ _ _ _ _ us hl => match us, hl with | [_, _, _], _ => rfl, .nil⟩
  have c_FullBook_tells_of : Y.Met P w K mg base CX0 3 (He.ga K "FullBook") "tells_of" (sp_FullBook_tells_of K) [] := ⟨_, fd_FullBook_tells_of, ["self", "word", "day"], [], He.cls_ok (c.fact 73 (f := .cls "FullBook") rfl), He.meth_ok (c.fact 74 (f := .meth "FullBook" "tells_of") rfl), ok_FullBook_tells_of T F_FullBook_tells_of c_Book_tells_of, F_FullBook_tells_of.bindsN fun _ _ _ _ _ _ us hl => match us, hl with | [_, _, _], _ => rfl, .nil⟩
  have c_can_be_had : Y.Cal P w K mg base CX0 4 "can_be_had" (sp_can_be_had K) [] := ⟨_, fd_can_be_had, ["book", "stay"], [], ok_can_be_had T F_can_be_had c_Book_tells_of c_FullBook_tells_of c_nights_of, He.glo_ok X G (c.fact 75 (f := .glo "can_be_had") rfl), F_can_be_had.kp, F_can_be_had.bindsN fun _ _ _ _ _ _ us hl => match us, hl with | [_, _], _ => rfl, .nil⟩
  have c_marked : Y.Cal P w K mg base CX0 1 "marked" (sp_marked K) [] := ⟨_, fd_marked, ["prices", "deal"], [], ok_marked T F_marked , He.glo_ok X G (c.fact 76 (f := .glo "marked") rfl), F_marked.kp, F_marked.bindsN fun _ _ _ _ _ _ us hl => match us, hl with | [_, _], _ => rfl, .nil⟩
  have c_bill : Y.Cal P w K mg base CX0 4 "bill" (sp_bill K) [] := ⟨_, fd_bill, ["book", "stay"], [], ok_bill T F_bill c_nights_of c_Book_tells_of c_FullBook_tells_of c_marked, He.glo_ok X G (c.fact 77 (f := .glo "bill") rfl), F_bill.kp, F_bill.bindsN fun _ _ _ _ _ _ us hl => match us, hl with | [_, _], _ => rfl, .nil⟩
  have c_coins_of : Y.Cal P w K mg base CX0 5 "coins_of" (sp_coins_of K) [] := ⟨_, fd_coins_of, ["book", "stay"], [], ok_coins_of T F_coins_of c_can_be_had c_bill, He.glo_ok X G (c.fact 78 (f := .glo "coins_of") rfl), F_coins_of.kp, F_coins_of.bindsN fun _ _ _ _ _ _ us hl => match us, hl with | [_, _], _ => rfl, .nil⟩
  have c_parts_from : Y.Cal P w K mg base CX0 6 "parts_from" (sp_parts_from K) [] := ⟨_, fd_parts_from, ["books", "stay", "day"], [], ok_parts_from T F_parts_from c_coins_of, He.glo_ok X G (c.fact 79 (f := .glo "parts_from") rfl), F_parts_from.kp, F_parts_from.bindsN fun _ _ _ _ _ _ us hl => match us, hl with | [_, _, _], _ => rfl, .nil⟩
  have c_ways : Y.Cal P w K mg base CX0 7 "ways" (sp_ways K) [] := ⟨_, fd_ways, ["books", "stay"], [], ok_ways T F_ways c_parts_from, He.glo_ok X G (c.fact 80 (f := .glo "ways") rfl), F_ways.kp, F_ways.bindsN fun _ _ _ _ _ _ us hl => match us, hl with | [_, _], _ => rfl, .nil⟩
  have c_paper_by : Y.Cal P w K mg base CX0 1 "paper_by" (sp_paper_by K) [] := ⟨_, fd_paper_by, ["found", "stay"], [], ok_paper_by T F_paper_by , He.glo_ok X G (c.fact 81 (f := .glo "paper_by") rfl), F_paper_by.kp, F_paper_by.bindsN fun _ _ _ _ _ _ us hl => match us, hl with | [_, _], _ => rfl, .nil⟩
  have c_cut_by : Y.Cal P w K mg base CX0 1 "cut_by" (sp_cut_by K) [] := ⟨_, fd_cut_by, ["found", "go"], [], ok_cut_by T F_cut_by , He.glo_ok X G (c.fact 82 (f := .glo "cut_by") rfl), F_cut_by.kp, F_cut_by.bindsN fun _ _ _ _ _ _ us hl => match us, hl with | [_, _], _ => rfl, .nil⟩
  have c_best : Y.Cal P w K mg base CX0 8 "best_cuts" (sp_best K) [] := ⟨_, fd_best_cuts, ["books", "stay"], [], ok_best T F_best_cuts c_ways c_paper_by c_cut_by, He.glo_ok X G (c.fact 83 (f := .glo "best_cuts") rfl), F_best_cuts.kp, F_best_cuts.bindsN fun _ _ _ _ _ _ us hl => match us, hl with | [_, _], _ => rfl, .nil⟩
  have c_FullBook : Y.Mak P w K mg base CX0 1 "FullBook" (He.ga K "FullBook") (sp_FullBook_init K) [] := ⟨_, fd_FullBook_init, ["self", "book", "nights"], [], He.mkr_ok (c.fact 84 (f := .mkr "FullBook") rfl), ok_FullBook_init T F_FullBook_init , He.glo_ok X G (c.fact 129 (f := .glo "FullBook") rfl), F_FullBook_init.bindsN fun _ _ _ _ _ _ us hl => match us, hl with | [_, _, _], _ => rfl, .nil⟩
  have c_Inn_books_now : Y.Met P w K mg base CX0 3 (He.ga K "Inn") "books_now" (sp_Inn_books_now K) [] := ⟨_, fd_Inn_books_now, ["self"], [], He.cls_ok (c.fact 46 (f := .cls "Inn") rfl), He.meth_ok (c.fact 85 (f := .meth "Inn" "books_now") rfl), ok_Inn_books_now T F_Inn_books_now c_Inn_full c_FullBook, F_Inn_books_now.bindsN fun _ _ _ _ _ _ us hl => match us, hl with | [_], _ => rfl, .nil⟩
  have c_Inn_best : Y.Met P w K mg base CX0 9 (He.ga K "Inn") "best" (sp_Inn_best K) [] := ⟨_, fd_Inn_best, ["self", "stay"], [], He.cls_ok (c.fact 46 (f := .cls "Inn") rfl), He.meth_ok (c.fact 86 (f := .meth "Inn" "best") rfl), ok_Inn_best T F_Inn_best c_best c_Inn_books_now, F_Inn_best.bindsN fun _ _ _ _ _ _ us hl => match us, hl with | [_, _], _ => rfl, .nil⟩
  have ce_Off : Y.XIn P w K mg base 1 "Off" "days" := ⟨_, fd_Off_init, ["self", "days"], oke_Off_init T F_Off_init, He.glo_ok X G (c.fact 87 (f := .glo "Off") rfl), F_Off_init.bindsN fun _ _ _ _ _ _ us hl => match us, hl with | [_, _], _ => rfl, (He.meth_ok (c.fact 88 (f := .meth "Off" "__init__") rfl)).at_, beq_iff_eq.mp (He.meth_ok (c.fact 88 (f := .meth "Off" "__init__") rfl)).fn⟩
  have c_Inn_keep : Y.Met P w K mg base CX0 1 (He.ga K "Inn") "keep" (sp_Inn_keep K) [] := ⟨_, fd_Inn_keep, ["self"], [], He.cls_ok (c.fact 46 (f := .cls "Inn") rfl), He.meth_ok (c.fact 89 (f := .meth "Inn" "keep") rfl), ok_Inn_keep T F_Inn_keep , F_Inn_keep.bindsN fun _ _ _ _ _ _ us hl => match us, hl with | [_], _ => rfl, .nil⟩
  have cx_Inn_take : Y.Met P w K mg base (L2.CX P w) 10 (He.ga K "Inn") "take" (spx_Inn_take K) [] := ⟨_, fd_Inn_take, ["self", "stay"], [], He.cls_ok (c.fact 46 (f := .cls "Inn") rfl), He.meth_ok (c.fact 90 (f := .meth "Inn" "take") rfl), okx_Inn_take T F_Inn_take c_Inn_best ce_Off c_Inn_keep, F_Inn_take.bindsN fun _ _ _ _ _ _ us hl => match us, hl with | [_, _], _ => rfl, .nil⟩
  have cx_Inn_give_back : Y.Met P w K mg base (L2.CX P w) 2 (He.ga K "Inn") "give_back" (spx_Inn_give_back K) [] := ⟨_, fd_Inn_give_back, ["self", "number"], [], He.cls_ok (c.fact 46 (f := .cls "Inn") rfl), He.meth_ok (c.fact 91 (f := .meth "Inn" "give_back") rfl), okx_Inn_give_back T F_Inn_give_back c_is_whole c_Inn_keep, F_Inn_give_back.bindsN fun _ _ _ _ _ _ us hl => match us, hl with | [_, _], _ => rfl, .nil⟩
  have cx_Inn_need_name : Y.Met P w K mg base (L2.CX P w) 1 (He.ga K "Inn") "need_name" (spx_Inn_need_name K) [] := ⟨_, fd_Inn_need_name, ["self", "name"], [], He.cls_ok (c.fact 46 (f := .cls "Inn") rfl), He.meth_ok (c.fact 47 (f := .meth "Inn" "need_name") rfl), okx_Inn_need_name T F_Inn_need_name , F_Inn_need_name.bindsN fun _ _ _ _ _ _ us hl => match us, hl with | [_, _], _ => rfl, .nil⟩
  have ce_NoRule : Y.XIn P w K mg base 1 "NoRule" "number" := ⟨_, fd_NoRule_init, ["self", "number"], oke_NoRule_init T F_NoRule_init, He.glo_ok X G (c.fact 92 (f := .glo "NoRule") rfl), F_NoRule_init.bindsN fun _ _ _ _ _ _ us hl => match us, hl with | [_, _], _ => rfl, (He.meth_ok (c.fact 93 (f := .meth "NoRule" "__init__") rfl)).at_, beq_iff_eq.mp (He.meth_ok (c.fact 93 (f := .meth "NoRule" "__init__") rfl)).fn⟩
  obtain ⟨ds_cx_Book, vs_cx_Book, bs_cx_Book⟩ := FunD.binds1 (ps := ["self", "rules"]) F_Book_init 2 1 (List.cons_ne_nil _ _) rfl fun _ _ _ _ _ _ _ us its hu hi => match us, its, hu, hi with | [_, _], [_], _, _ => ⟨_, rfl, rfl⟩
  have cx_Book : Y.Mak P w K mg base (L2.CX P w) 6 "Book" (He.ga K "Book") (spx_Book_init K) [] := ⟨_, fd_Book_init, ["self", "rules"], ds_cx_Book, He.mkr_ok (c.fact 44 (f := .mkr "Book") rfl), okx_Book_init T F_Book_init c_rule_of ce_NoRule c_Price_word c_Come_word c_Go_word c_Least_word c_Most_word c_Deal_word c_Fee_word, He.glo_ok X G (c.fact 125 (f := .glo "Book") rfl), bs_cx_Book, vs_cx_Book⟩
  have cx_laid : Y.Cal P w K mg base (L2.CX P w) 8 "laid" (spx_laid K) [] := ⟨_, fd_laid, ["elder", "newer"], [], okx_laid T F_laid c_Book_rules cx_Book, He.glo_ok X G (c.fact 94 (f := .glo "laid") rfl), F_laid.kp, F_laid.bindsN fun _ _ _ _ _ _ us hl => match us, hl with | [_, _], _ => rfl, .nil⟩
  have cx_Inn_lay : Y.Met P w K mg base (L2.CX P w) 9 (He.ga K "Inn") "lay" (spx_Inn_lay K) [] := ⟨_, fd_Inn_lay, ["self", "name", "rules"], [], He.cls_ok (c.fact 46 (f := .cls "Inn") rfl), He.meth_ok (c.fact 95 (f := .meth "Inn" "lay") rfl), okx_Inn_lay T F_Inn_lay cx_Inn_need_name cx_laid cx_Book c_Inn_keep, F_Inn_lay.bindsN fun _ _ _ _ _ _ us hl => match us, hl with | [_, _, _], _ => rfl, .nil⟩
  have c_bounds_of : Y.Cal P w K mg base CX0 4 "bounds_of" (sp_bounds_of K) [] := ⟨_, fd_bounds_of, ["books"], [], ok_bounds_of T F_bounds_of c_Book_rules, He.glo_ok X G (c.fact 96 (f := .glo "bounds_of") rfl), F_bounds_of.kp, F_bounds_of.bindsN fun _ _ _ _ _ _ us hl => match us, hl with | [_], _ => rfl, .nil⟩
  have c_unlike : Y.Cal P w K mg base CX0 5 "unlike" (sp_unlike K) [] := ⟨_, fd_unlike, ["one", "other"], [], ok_unlike T F_unlike c_bounds_of c_Book_tells_of, He.glo_ok X G (c.fact 97 (f := .glo "unlike") rfl), F_unlike.kp, F_unlike.bindsN fun _ _ _ _ _ _ us hl => match us, hl with | [_, _], _ => rfl, .nil⟩
  have c_tidied : Y.Cal P w K mg base CX0 8 "tidied" (sp_tidied K) [] := ⟨_, fd_tidied, ["book"], [], ok_tidied T F_tidied c_Book_rules c_unlike c_Book, He.glo_ok X G (c.fact 98 (f := .glo "tidied") rfl), F_tidied.kp, F_tidied.bindsN fun _ _ _ _ _ _ us hl => match us, hl with | [_], _ => rfl, .nil⟩
  have cx_Inn_tidy : Y.Met P w K mg base (L2.CX P w) 9 (He.ga K "Inn") "tidy" (spx_Inn_tidy K) [] := ⟨_, fd_Inn_tidy, ["self", "name"], [], He.cls_ok (c.fact 46 (f := .cls "Inn") rfl), He.meth_ok (c.fact 99 (f := .meth "Inn" "tidy") rfl), okx_Inn_tidy T F_Inn_tidy cx_Inn_need_name c_tidied c_Inn_keep, F_Inn_tidy.bindsN fun _ _ _ _ _ _ us hl => match us, hl with | [_, _], _ => rfl, .nil⟩
  have cx_Inn_undo : Y.Met P w K mg base (L2.CX P w) 1 (He.ga K "Inn") "undo" (spx_Inn_undo K) [] := ⟨_, fd_Inn_undo, ["self"], [], He.cls_ok (c.fact 46 (f := .cls "Inn") rfl), He.meth_ok (c.fact 100 (f := .meth "Inn" "undo") rfl), okx_Inn_undo T F_Inn_undo , F_Inn_undo.bindsN fun _ _ _ _ _ _ us hl => match us, hl with | [_], _ => rfl, .nil⟩
  have c_Ldone : Y.Cal P w K mg base CX0 11 "_law_done" (sp_Ldone K) [] := ⟨_, fd_Ldone, ["_law_inn", "_law_deed_here"], [], ok_Ldone T F_Ldone cx_Inn_take cx_Inn_give_back cx_Inn_lay cx_Inn_tidy cx_Inn_undo, He.glo_ok X G (c.fact 101 (f := .glo "_law_done") rfl), F_Ldone.kp, F_Ldone.bindsN fun _ _ _ _ _ _ us hl => match us, hl with | [_, _], _ => rfl, .nil⟩
  have c_Lplayed : Y.Cal P w K mg base CX0 12 "_law_played" (sp_Lplayed K) [] := ⟨_, fd_Lplayed, ["_law_inn", "_law_day_here", "_law_cells"], [], ok_Lplayed T F_Lplayed c_Lseen c_Ldeed c_Lbegin c_Ldone, He.glo_ok X G (c.fact 102 (f := .glo "_law_played") rfl), F_Lplayed.kp, F_Lplayed.bindsN fun _ _ _ _ _ _ us hl => match us, hl with | [_, _, _], _ => rfl, .nil⟩
  exact ok_law T F_law c_Lbegin c_Lcell_at c_Lday c_Lfew c_Ltake c_Inn c_Lseen c_Lplayed c_Lstay c_Ldone
end Y
theorem PySem.Challenge.cw_stayprice_k79_undone_to_the_beginning_holds : PySem.Challenge.rw_stayprice_k79_undone_to_the_beginning.Holds :=
  Y.early Y.sp_law (fun K m0 H a ns hl _ hS => by
    obtain ⟨m1, x0⟩ := Bool.and_eq_true_iff.mp m0
    obtain ⟨m2, x1⟩ := Bool.and_eq_true_iff.mp m1
    obtain ⟨m3, x2⟩ := Bool.and_eq_true_iff.mp m2
    obtain ⟨m4, x3⟩ := Bool.and_eq_true_iff.mp m3
    obtain ⟨m5, x4⟩ := Bool.and_eq_true_iff.mp m4
    obtain ⟨m6, x5⟩ := Bool.and_eq_true_iff.mp m5
    obtain ⟨m7, x6⟩ := Bool.and_eq_true_iff.mp m6
    obtain ⟨m8, x7⟩ := Bool.and_eq_true_iff.mp m7
    obtain ⟨m9, x8⟩ := Bool.and_eq_true_iff.mp m8
    obtain ⟨m10, x9⟩ := Bool.and_eq_true_iff.mp m9
    exact ⟨_, rfl, m10, x9, x8, x7, x6, x5, x4, x3, x2, x1, x0, a, ns, rfl, hS, hl, fun _ => rfl⟩) Y.facts
