import PyProof.Rows.All
import Wide.All
import OpenK.AllK
import Wide.FinOn
import HandS.Head0
import HandS.Head1
import HandS.Head2
import HandS.HeadEnd
import HandS.HeadHook1
import HandS.HeadHook2
import HandS.HeadHook3
import HandS.HeadHook4
import HandS.ExcInit
import KE.KTryMore
import OpenK.KCls
import HandS.Words
import KE.KStateDown
import HandS.ForMost
import HandS.ForExc
import HandS.Wide
import HandS.Conv
import HandS.IsInst
import HandS.Defaults
import HandS.Codes
import HandS.Flow
import PyProof.ReprRoads
import PyProof.EqLayable
import HandS.SortRule
import HandS.Walk
import HandS.SetFor
import HandS.TupSets
import HandS.SetKeys
import HandS.Dict
import KE.DataCmp
import KE.SortData
import KE.DatumOrd
import HandS.SortKw
import HandS.SortInts
import HandS.Zip
import PySem.Challenge.RW_stayprice_k76_rooms_dealt
set_option Elab.async false
set_option linter.all false
set_option maxRecDepth 100000
set_option maxHeartbeats 4000000
/-! YH: what is told of the classes at the head. -/
namespace Y
open PySem PySem.Spec PyProof.Rows L2
def ruleCls : List Str := ["Price", "Come", "Go", "Least", "Most", "Deal", "Fee"]
def wordsL : List Str := ["price", "come", "go", "least", "most", "deal", "fee"]
def isiB (K : PySem.W.Frag) (x y : Str) (b : Bool) : Bool := decide (PySem.W.kitOne K (.ref (He.ga K x)) (.ref (He.ga K y)) = some b)
def tyB (K : PySem.W.Frag) (C : Addr) : Bool := He.eqO (PySem.W.findIn K (.ref C) "__class__") (some (some (.builtin "object.__class__"))) && (He.eqO (PySem.W.specialIn K (.builtin "object.__class__") "__get__") (some (some (.builtin "getset_descriptor.__get__"))) && (decide (PySem.W.takesIn K (.builtin "object.__class__") = some true) && decide (PySem.W.mroIn K C (.type "object") = some true)))
/-- what the rules' classes are, told of K -/
def exRules (K : PySem.W.Frag) : Bool := (ruleCls.all fun x => (He.Fa.cls x).ok K && ((["first", "last", "worth"] : List Str).all (fun f => (He.Fa.noat x f).ok K) && (tyB K (He.ga K x) && isiB K x "Rule" true))) &&
  ((ruleCls.all fun x => ruleCls.all fun y => isiB K x y (decide (x = y))) && He.tupB K "WORDS" (wordsL.map He.Dv.str))
def exBook (K : PySem.W.Frag) : Bool := (He.Fa.cls "Book").ok K && ((["kept", "newest"] : List Str).all (fun f => (He.Fa.noat "Book" f).ok K) && (tyB K (He.ga K "Book") && isiB K "Book" "Book" true))
/-! errors -/
/-- the class x stands under y -/
def subE (x y : Str) : Bool := decide (x = y) || decide (y = "StayError")
/-- what is told of any error's class -/
def errB (K : PySem.W.Frag) (x : Str) : Bool := decide (PySem.W.findIn K (.ref (He.ga K x)) "__getattribute__" = some (some (.builtin "BaseException.__getattribute__"))) && (decide (PySem.W.findIn K (.ref (He.ga K x)) "__getattr__" = some none) &&
  (decide (PySem.W.subIn K (.ref (He.ga K x)) (.type "BaseException") = some true) && (PySem.W.hasDictIn K (He.ga K x) && (tyB K (He.ga K x) && (decide (PySem.W.typeIn K (.ref (He.ga K x)) = some (.type "type")) && (PySem.W.keepIn K (.ref (He.ga K x)) && PySem.W.isClsIn K (He.ga K x)))))))
/-- the errors L, and StayError: which stands under which -/
def exErrs (L : List Str) (K : PySem.W.Frag) : Bool := L.all fun x => errB K x && (decide (PySem.W.kitOne K (.ref (He.ga K x)) (.type "ValueError") = some true) &&
  ((("StayError" : Str) :: L).all fun y => (He.Fa.exm x y (subE x y)).ok K && isiB K x y (subE x y)))
/-- an error's class without own __init__ -/
def exBare (x : Str) (K : PySem.W.Frag) : Bool := PySem.W.excIn K (He.ga K x) He.veBase "ValueError.__new__" && errB K x
def oexB (K : PySem.W.Frag) (C : Addr) : Bool := match K.lookup C with
  | some ⟨.type "type", _, .cls cd, sl⟩ => (match cd.mro, sl.toList with
    | .ref C' :: bm, [_, _, _, _, some (.builtin n), _] => C' == C && (n == "ValueError.__new__" && (!cd.hasDel && (cd.hasDict && PySem.HandSPX.refsVE bm)))
    | _, _ => false)
  | _ => false
/-- StayError.__init__ is ValueError's -/
def exStay (K : PySem.W.Frag) : Bool := PySem.W.readsIn K (He.ga K "StayError") (.type "type") && (decide (PySem.W.specialIn K (.ref (He.ga K "StayError")) "__getattribute__" = some (some (.builtin "type.__getattribute__"))) &&
  (match PySem.W.findCls K (.ref (He.ga K "StayError")) (.type "type") "__init__" with
  | some (.val (.builtin n)) => decide (n = "ValueError.__init__")
  | _ => false))
/-- an error's class whose __init__ calls StayError's and writes the field f -/
def exInit (x f : Str) (K : PySem.W.Frag) : Bool := exStay K && (oexB K (He.ga K x) && (decide (PySem.W.findIn K (.ref (He.ga K x)) "__setattr__" = some (some (.builtin "object.__setattr__"))) && (decide (PySem.W.findIn K (.ref (He.ga K x)) f = some none) && errB K x)))
def exHind (K : PySem.W.Frag) : Bool := He.tupB K "HINDERING" (((["price", "come", "go", "least", "most"] : List Str)).map He.Dv.str)
/-! the head's hook: what the names reach, and the table of statics (a class's attributes are looked up there) -/
abbrev AlY : Type := He.AlD × Bool
def asY (g : Addr → Option Obj) (n : Nat) : List Addr := He.asD g n ++ [cStatics]
def obsY (n : Nat) (fa : List He.Fa) (fn : List He.DefD) (ex : PySem.W.Frag → Bool) (g : Addr → Option Obj) : AlY := (He.obsD fa fn (He.frG g (asY g n)), ex (He.frG g (asY g n)))
def hookY (n : Nat) (fa : List He.Fa) (fn : List He.DefD) (ex : PySem.W.Frag → Bool) : PySem.W.Hook where
  α := AlY
  obs := fun s => obsY n fa fn ex s.heap.get?
  val := fun _ => (He.valD fn, true)
  says := fun _ h => ∃ K : PySem.W.Frag, K.In h ∧ He.SaysD fa fn K ∧ ex K = true
  of := fun _ _ e => ⟨_, He.frG_in, congrArg (fun z : AlY => z.1) e, congrArg (fun z : AlY => z.2) e⟩
  keeps := fun _ _ _ ⟨K, hK, c⟩ k => ⟨K, PySem.W.Frag.In.keeps hK k, c⟩
end Y
namespace YHd
open PySem PySem.Spec PyProof.Rows L2 Y
def top (i : Nat) : Stmt := PySem.Challenge.pw_stayprice_k76_rooms_dealt.main.body.getD i (.Pass ⟨0, 0, 0, 0⟩)
abbrev s_Ltake : Stmt := top 5
abbrev s_Lday : Stmt := top 6
abbrev s_Lstay : Stmt := top 7
abbrev s_Lstays : Stmt := top 8
abbrev s_Lbegin : Stmt := top 4
abbrev s_dealt : Stmt := top 1
abbrev s_Lright : Stmt := top 9
abbrev s_law : Stmt := top 10
/-! the head: facts by names, the run of the top -/
def d_Ltake : He.DefD := ⟨("_law_take", none), "_law_take", "_law_take", defArgs s_Ltake, defBody s_Ltake, defScope s_Ltake, [], []⟩
def d_Lday : He.DefD := ⟨("_law_day", none), "_law_day", "_law_day", defArgs s_Lday, defBody s_Lday, defScope s_Lday, [], []⟩
def d_Lstay : He.DefD := ⟨("_law_stay", none), "_law_stay", "_law_stay", defArgs s_Lstay, defBody s_Lstay, defScope s_Lstay, [], []⟩
def d_Lstays : He.DefD := ⟨("_law_stays", none), "_law_stays", "_law_stays", defArgs s_Lstays, defBody s_Lstays, defScope s_Lstays, [], []⟩
def d_Lbegin : He.DefD := ⟨("_law_begin", none), "_law_begin", "_law_begin", defArgs s_Lbegin, defBody s_Lbegin, defScope s_Lbegin, [], []⟩
def d_dealt : He.DefD := ⟨("dealt", none), "dealt", "dealt", defArgs s_dealt, defBody s_dealt, defScope s_dealt, [], []⟩
def d_Lright : He.DefD := ⟨("_law_right", none), "_law_right", "_law_right", defArgs s_Lright, defBody s_Lright, defScope s_Lright, [], []⟩
def d_law : He.DefD := ⟨("law", none), "law", "law", defArgs s_law, defBody s_law, defScope s_law, [], []⟩
def fn : List He.DefD := d_Ltake :: d_Lday :: d_Lstay :: d_Lstays :: d_Lbegin :: d_dealt :: d_Lright :: d_law :: []
def fa : List He.Fa := .glo "_law_take" :: .glo "_law_day" :: .glo "_law_stay" :: .glo "_law_stays" :: .glo "_law_begin" :: .glo "dealt" :: .glo "_law_right" :: .glo "law" :: .free "bool" :: .free "enumerate" :: .free "int" :: .free "isinstance" :: .free "len" :: .free "list" :: .free "max" :: .free "min" :: .free "range" :: .free "set" :: .free "sorted" :: .free "zip" :: []
abbrev AlH := He.AlD
abbrev R : PySem.W.OpenRow := PySem.W.OpenLaw.row PySem.Challenge.rw_stayprice_k76_rooms_dealt
abbrev hk : PySem.W.Hook := He.hookD 4 fa fn
def ob (s : PySem.W.SharedT) : AlH := He.obsDG 4 fa fn (HandSHeadRun.getT s)
theorem ob_eq (s : PySem.W.SharedT) : ob s = hk.obs s.abs := He.obsDG_eq (HandSHeadRun.getT_eq s)
def loose : List PySem.Str := "dealt" :: "_law_cell_at" :: "_law_begin" :: "_law_take" :: "_law_day" :: "_law_stay" :: "_law_stays" :: "_law_right" :: []
theorem run (w : World) : HandSHeadRun.RunEq R (PySem.W.view R.prog [10]) hk ob 6000 loose w := by
  intro os
  kernel_rfl
end YHd
/-! Y0: short names of readings; promises by their number of arguments; heaps that grow; steps of a reading. -/
namespace Y
open PySem PySem.Spec PyProof.Rows L2

/-- nothing stands at p -/
def Fr (H : Hp) (p : Addr) : Prop := H p = none
/-! ### short names for the readings of operators and built-ins -/
abbrev rAdd : R2 := rI0 fun i j => .int (i + j)
abbrev rSub : R2 := rI0 fun i j => .int (i - j)
abbrev rMul : R2 := rI CMul fun i j => .int (i * j)
abbrev rPow : R2 := rI CPow fun i j => .int (i ^ j.toNat)
abbrev rMod : R2 := rI (fun _ j => 0 < j) fun i j => .int (i % j)
abbrev rDivW : R2 := rI CDivW fun i j => .int (i / j)
abbrev rLt : R2 := rI0 fun i j => .bl (decide (i < j))
abbrev rLe : R2 := rI0 fun i j => .bl (decide (i ≤ j))
abbrev rGt : R2 := rI0 fun i j => .bl (decide (j < i))
abbrev rGe : R2 := rI0 fun i j => .bl (decide (j ≤ i))
abbrev rIsN : R2 := fun x y H Q => y = .non ∧ Q (.bl (decide (x = .non))) H
abbrev rNotN : R2 := fun x y H Q => y = .non ∧ Q (.bl (!decide (x = .non))) H
abbrev rAddS : R2 := fun x y H Q => ∃ i j, x = .str i ∧ y = .str j ∧ i.length + j.length ≤ sizeLine ∧ Q (.str (i ++ j)) H
abbrev rNeg : V → Hp → VK → Prop := rU fun i => .int (-i)
abbrev rAbs : List V → Hp → VK → Prop := fun xs H Q => ∃ i, xs = [.int i] ∧ Q (.int (if i < 0 then -i else i)) H
abbrev rMax2 : List V → Hp → VK → Prop := fun xs H Q => ∃ i j, xs = [.int i, .int j] ∧ Q (.int (if j > i then j else i)) H
abbrev rMin2 : List V → Hp → VK → Prop := fun xs H Q => ∃ i j, xs = [.int i, .int j] ∧ Q (.int (if j < i then j else i)) H
abbrev rInt1 : List V → Hp → VK → Prop := fun xs H Q => (∃ i, xs = [.int i] ∧ Q (.int i) H) ∨ ∃ k, xs = [.bl k] ∧ Q (.int (if k then 1 else 0)) H
abbrev rLen (K : PySem.W.Frag) : List V → Hp → VK → Prop := fun xs H Q => ∃ p ys, xs = [.ref p] ∧ (SqL K H p ys ∨ SqT K H p ys) ∧ Q (.int ys.length) H
abbrev rLenS : List V → Hp → VK → Prop := fun xs H Q => ∃ z, xs = [.str z] ∧ z.length ≤ sizeLine ∧ Q (.int z.length) H
abbrev rLenA (K : PySem.W.Frag) : List V → Hp → VK → Prop := fun xs H Q => ∃ x n, xs = [x] ∧ LenV K x H n ∧ Q (.int n) H
abbrev rListOf (K : PySem.W.Frag) : List V → Hp → VK → Prop := fun xs H Q => ∃ p ys, xs = [.ref p] ∧ (SqL K H p ys ∨ SqT K H p ys) ∧ ∀ l, H l = none → Q (.ref l) (upd H l (.lst ys))
abbrev rTupOf (K : PySem.W.Frag) : List V → Hp → VK → Prop := fun xs H Q => ∃ p ys, xs = [.ref p] ∧ ((SqL K H p ys ∧ ∀ l, H l = none → Q (.ref l) (upd H l (.tup ys))) ∨ (SqT K H p ys ∧ Q (.ref p) H))
abbrev rInsert : V → List V → Hp → VK → Prop := fun x vs H Q => ∃ (l : Addr) (xs : List V) (i : Int) (y : V), x = .ref l ∧ vs = [.int i, y] ∧ H l = some (.lst xs) ∧ xs.length < sizeLine ∧ 0 ≤ i ∧ i < 2 ^ 63 ∧ Q .non (upd H l (.lst (xs.take i.toNat ++ [y] ++ xs.drop i.toNat)))
abbrev tTruth (K : PySem.W.Frag) (ta : TE) : TT := fun σ H Q => ta σ H fun x H1 => ∃ k, TruV K x H1 k ∧ Q k H1

/-! ### steps by what the reading is -/
section
variable {K : PySem.W.Frag} {σ : L2.St} {H : Hp} {Q : VK} {x y v : V} {i j : Int} {p : Addr} {xs : List V}
theorem g_c (q : Q v H) : tC v σ H Q := q
theorem g_op {r : R2} {ta tb : TE} (q : ta σ H fun x H1 => tb σ H1 fun y H2 => r x y H2 Q) : tOp r ta tb σ H Q := q
theorem g_tB {t : TE} {Q : Bool → Hp → Prop} (h : t σ H fun x H' => ∃ k, x = .bl k ∧ Q k H') : tB t σ H Q := h
theorem g_and {t u : TT} {Q : Bool → Hp → Prop} (h : t σ H fun c H1 => if c = true then u σ H1 Q else Q false H1) : tAnd t u σ H Q := h
theorem g_or {t u : TT} {Q : Bool → Hp → Prop} (h : t σ H fun c H1 => if c = true then Q true H1 else u σ H1 Q) : tOr t u σ H Q := h
theorem g_not {t : TT} {Q : Bool → Hp → Prop} (h : t σ H fun c H1 => Q (!c) H1) : tNot t σ H Q := h
theorem g_nil {Q : List V → Hp → Prop} (h : Q [] H) : tNil σ H Q := h
theorem g_cons {ta : TE} {tr : TA} {Q : List V → Hp → Prop} (h : ta σ H fun x H1 => tr σ H1 fun xs H2 => Q (x :: xs) H2) : tCons ta tr σ H Q := h
theorem g_tTup {t : TA} (h : t σ H fun xs H1 => xs.length ≤ sizeLine ∧ ∀ p, Fr H1 p → Q (.ref p) (upd H1 p (.tup xs))) : tTup t σ H Q := h
theorem g_tLst {t : TA} (h : t σ H fun xs H1 => xs.length ≤ sizeLine ∧ ∀ p, Fr H1 p → Q (.ref p) (upd H1 p (.lst xs))) : tLst t σ H Q := h
theorem g_cb {r : List V → Hp → VK → Prop} {t : TA} (h : t σ H fun vs H1 => r vs H1 Q) : tCB r t σ H Q := h
theorem g_call {sp : Sp} {dvs : List V} {E : XK} {t : TA} (h : t σ H fun vs H1 => sp (vs ++ dvs) H1 Q E) : tCall sp dvs E t σ H Q := h
theorem g_sl {r : V → Option Int → Option Int → Hp → VK → Prop} {te : TE} {tl th : TO} (h : te σ H fun x H1 => tl σ H1 fun l H2 => th σ H2 fun u H3 => r x l u H3 Q) : tSl r te tl th σ H Q := h
theorem g_wipe {a b : L2.St} {R : Prop} (h : a = b) (r : R) : a = b ∧ R := ⟨h, r⟩
theorem g_np {Q : Option Int → Hp → Prop} (h : Q none H) : tNoPart σ H Q := h
theorem g_pt {t : TE} {Q : Option Int → Hp → Prop} (h : t σ H fun x H1 => ∃ i, x = .int i ∧ Q (some i) H1) : tPart t σ H Q := h
theorem g_exI {R : Int → Prop} (q : R i) : ∃ i', V.int i = .int i' ∧ R i' := ⟨i, rfl, q⟩
theorem g_bm {T : String} {r : V → List V → Hp → VK → Prop} {to : TE} {t : TA} (h : to σ H fun x H1 => tyV K T x H1 ∧ t σ H1 fun xs H2 => r x xs H2 Q) : tBM K T r to t σ H Q := h
theorem g_tyL {R : Prop} (h : SqL K H p xs) (q : R) : tyV K "list" (.ref p) H ∧ R := ⟨.inl ⟨rfl, _, h⟩, q⟩
theorem g_yes {Q : Bool → Hp → Prop} (h : Q true H) : tYes σ H Q := h
theorem g_seq {t u : TS} {D : Ends} (h : t { D with nx := u D } σ H) : tSeq t u D σ H := h
theorem g_asg {te : TE} {g : TG} {D : Ends} (h : te σ H fun x H1 => g x σ H1 D.nx) : tAsg te g D σ H := h
theorem g_name {n : Nat} {Q : L2.St → Hp → Prop} (h : Q (σ.set n (some v)) H) : gName n v σ H Q := h
theorem g_sub {to ti : TE} {t : TSet} {Q : L2.St → Hp → Prop} (h : to σ H fun o H1 => ti σ H1 fun i H2 => t o i v H2 fun H3 => Q σ H3) : gSub to ti t v σ H Q := h
theorem g_gtup {n : Nat} {t : TGs} {Q : L2.St → Hp → Prop} (h : SqT K H p xs) (l : xs.length = n) (q : t xs σ H Q) : gTup K n t (.ref p) σ H Q := ⟨p, xs, rfl, h, l, q⟩
theorem g_gcons {t : TG} {u : TGs} {Q : L2.St → Hp → Prop} (h : t x σ H fun σ' H' => u xs σ' H' Q) : gCons t u (x :: xs) σ H Q := ⟨x, xs, rfl, h⟩
theorem g_gnil {Q : L2.St → Hp → Prop} (h : Q σ H) : gNil [] σ H Q := ⟨rfl, h⟩
theorem g_seqA {te : TE} {g : TG} {u : TS} {D : Ends} (h : tAsg te g { D with nx := u D } σ H) : tSeq (tAsg te g) u D σ H := h
theorem g_seqR {c : TT} {te : TE} {v u : TS} {D : Ends} (h : tIfS c (tRet te) v { D with nx := u D } σ H) : tSeq (tIfS c (tRet te) v) u D σ H := h
theorem g_seqD {te : TE} {u : TS} {D : Ends} (h : tDrop te { D with nx := u D } σ H) : tSeq (tDrop te) u D σ H := h
theorem g_seqF {wi : TI} {g : TG} {b u : TS} {D : Ends} (h : tFor wi g b { D with nx := u D } σ H) : tSeq (tFor wi g b) u D σ H := h
theorem g_seqW {c : TT} {b u : TS} {D : Ends} (h : tWhile c b { D with nx := u D } σ H) : tSeq (tWhile c b) u D σ H := h
theorem g_ifS {c : TT} {t u : TS} {D : Ends} (h : c σ H fun b H1 => if b = true then t D σ H1 else u D σ H1) : tIfS c t u D σ H := h
theorem g_ret {te : TE} {D : Ends} (h : te σ H D.rt) : tRet te D σ H := h
theorem g_drop {te : TE} {D : Ends} (h : te σ H fun _ H1 => D.nx σ H1) : tDrop te D σ H := h
theorem g_next {D : Ends} (h : D.nx σ H) : tNext D σ H := h
theorem g_lstRg {te : L2.St → Hp → (Int → Int → Hp → Prop) → Prop} (h : te σ H fun a b H1 => RgOk a b ∧ ∀ q, Fr H1 q → Q (.ref q) (upd H1 q (.lst (rgV a b)))) : tLstRg te σ H Q := h
theorem g_rg1 {ta : TE} {Q : Int → Int → Hp → Prop} (h : ta σ H fun x H1 => ∃ n, x = .int n ∧ Q 0 n H1) : tRg1 ta σ H Q := h
theorem g_rng1 {ta : TA} {R : It → Hp → Prop} (h : ta σ H fun vs H1 => ∃ j : Int, vs = [.int j] ∧ -(2 ^ 62) ≤ j ∧ j < 2 ^ 62 ∧ R (Itr 0 j.toNat) H1) : iRng1 ta σ H R := h
theorem g_rng1b {R : Int → Prop} (a : -(2 ^ 62) ≤ i) (b : i < 2 ^ 62) (q : R i) : ∃ j : Int, [V.int i] = [.int j] ∧ -(2 ^ 62) ≤ j ∧ j < 2 ^ 62 ∧ R j := ⟨i, rfl, a, b, q⟩
theorem g_rng2 {ta : TA} {R : It → Hp → Prop} (h : ta σ H fun vs H1 => ∃ i j : Int, vs = [.int i, .int j] ∧ (-(2 ^ 62) ≤ i ∧ i < 2 ^ 62 ∧ -(2 ^ 62) ≤ j ∧ j < 2 ^ 62) ∧ R (Itr i (j - i).toNat) H1) : iRng2 ta σ H R := h
theorem g_rng2b {R : Int → Int → Prop} (a : -(2 ^ 62) ≤ i ∧ i < 2 ^ 62 ∧ -(2 ^ 62) ≤ j ∧ j < 2 ^ 62) (q : R i j) : ∃ i' j' : Int, [V.int i, V.int j] = [.int i', .int j'] ∧ (-(2 ^ 62) ≤ i' ∧ i' < 2 ^ 62 ∧ -(2 ^ 62) ≤ j' ∧ j' < 2 ^ 62) ∧ R i' j' := ⟨i, j, rfl, a, q⟩
theorem g_iList {tl : TE} {R : It → Hp → Prop} (h : tl σ H fun x H1 => ∃ a, x = .ref a ∧ (∃ xs, SqL K H1 a xs) ∧ R (Itl K a) H1) : iList K tl σ H R := h
theorem g_iListb {R : Addr → Prop} (h : SqL K H p xs) (q : R p) : ∃ a, V.ref p = .ref a ∧ (∃ xs, SqL K H a xs) ∧ R a := ⟨p, rfl, ⟨xs, h⟩, q⟩
theorem g_for {wi : TI} {g : TG} {tb : TS} {D : Ends} (h : wi σ H fun J H1 => ∃ W : Nat → Nat → L2.St → Hp → Prop, (∃ m, W 0 m σ H1) ∧ ∀ i m σ H, W i m σ H →
  (J.stop i H ∧ D.nx σ H) ∨ (J.go i H ∧ ∃ N : L2.St → Hp → Prop, (∀ σ' H', N σ' H' → ∃ m', m' < m ∧ W (i + 1) m' σ' H') ∧ ∀ x H', J.yld i H x H' → g x σ H' fun σ2 H2 => tb { D with nx := N, ct := N, bk := D.nx } σ2 H2)) : tFor wi g tb D σ H := h
theorem g_lc {wi : TI} {g : TG} {tt : TT} {te : TE} {vs : List Nat} (h : wi σ H fun J H1 => ∀ D, Fr H1 D → ∃ W : Nat → Nat → Hp → Prop, (∃ m, W 0 m (upd H1 D (.lst []))) ∧ ∀ i m H, W i m H →
  (J.stop i H ∧ Q (.ref D) H) ∨ (J.go i H ∧ ∃ Nx : Hp → Prop, (∀ H', Nx H' → ∃ m', m' < m ∧ W (i + 1) m' H') ∧ ∀ x H', J.yld i H x H' → g x (wipe σ vs) H' fun σ2 H2 => wipe σ2 vs = wipe σ vs ∧ tt σ2 H2 fun b H3 =>
    if b = true then te σ2 H3 fun y H4 => ∃ acc, H4 D = some (.lst acc) ∧ acc.length < sizeLine ∧ Nx (upd H4 D (.lst (acc ++ [y]))) else Nx H3)) : tLc wi g tt te vs σ H Q := h
theorem g_var {n : Nat} (h : σ[n]? = some (some v)) (q : Q v H) : tVar n σ H Q := ⟨v, h, q⟩
theorem g_rI0 {g : Int → Int → V} (q : Q (g i j) H) : rI0 g (.int i) (.int j) H Q := ⟨i, j, rfl, rfl, q⟩
theorem g_rI {C : Int → Int → Prop} {g : Int → Int → V} (c : C i j) (q : Q (g i j) H) : rI C g (.int i) (.int j) H Q := ⟨i, j, rfl, rfl, c, q⟩
theorem g_pow6 (q : Q (.int 1000000) H) : rPow (.int 10) (.int 6) H Q := ⟨10, 6, rfl, rfl, ⟨by decide, by decide, by decide⟩, q⟩
theorem g_pow18 (q : Q (.int 1000000000000000000) H) : rPow (.int 10) (.int 18) H Q := ⟨10, 18, rfl, rfl, ⟨by decide, by decide, by decide⟩, q⟩
theorem g_eq (c : scal x y = true) (q : Q (.bl (decide (x = y))) H) : rEq x y H Q := ⟨c, q⟩
theorem g_ne (c : scal x y = true) (q : Q (.bl (!decide (x = y))) H) : rNe x y H Q := ⟨c, q⟩
theorem g_ixL (h : SqL K H p xs) (a : atI xs i = some v) (q : Q v H) : rIxL K (.ref p) (.int i) H Q := ⟨p, xs, i, v, rfl, rfl, h, a, q⟩
theorem g_ixT (h : SqT K H p xs) (a : atI xs i = some v) (q : Q v H) : rIxT K (.ref p) (.int i) H Q := ⟨p, xs, i, v, rfl, rfl, h, a, q⟩
theorem g_setL {Q : Hp → Prop} {n : Nat} (h : H p = some (.lst xs)) (a : ixN xs.length i = some n) (q : Q (upd H p (.lst (xs.set n v)))) : rSetL (.ref p) (.int i) v H Q := ⟨p, xs, i, n, rfl, rfl, h, a, q⟩
theorem g_len (h : SqL K H p xs ∨ SqT K H p xs) (q : Q (.int xs.length) H) : rLen K [.ref p] H Q := ⟨p, xs, rfl, h, q⟩
theorem g_test {t : TE} {Q : Bool → Hp → Prop} (h : t σ H fun x H' => ∃ k, x = .bl k ∧ Q k H') : tTest t σ H Q := h
theorem g_bl {R : Bool → Prop} {k : Bool} (q : R k) : ∃ k', V.bl k = .bl k' ∧ R k' := ⟨k, rfl, q⟩
theorem g_sz {n : Nat} {R : Prop} (z : n ≤ sizeLine) (q : R) : n ≤ sizeLine ∧ R := ⟨z, q⟩
theorem g_slL {lo hi : Option Int} (h : SqL K H p xs) (q : ∀ a, Fr H a → Q (.ref a) (upd H a (.lst (cutV xs lo hi)))) : rSlL K (.ref p) lo hi H Q := ⟨p, xs, rfl, h, q⟩
theorem g_listOf (h : SqL K H p xs ∨ SqT K H p xs) (q : ∀ a, Fr H a → Q (.ref a) (upd H a (.lst xs))) : rListOf K [.ref p] H Q := ⟨p, xs, rfl, h, q⟩
theorem g_append (h : H p = some (.lst xs)) (z : xs.length < sizeLine) (q : Q .non (upd H p (.lst (xs ++ [y])))) : rAppend (.ref p) [y] H Q := ⟨p, xs, y, rfl, rfl, h, z, q⟩
theorem g_min2 (q : Q (.int (if j < i then j else i)) H) : rMin2 [.int i, .int j] H Q := ⟨i, j, rfl, q⟩
end
section
variable {K : PySem.W.Frag} {H : Hp} {Q : VK} {i : Int} {p : Addr} {xs : List V}
theorem g_isi_int_int  (q : Q (.bl true) H) : rIsi K [.int i, .ty "int"] H Q := ⟨_, _, .type "int", .type "int", true, rfl, .ty _, .base (.int i), kit_ty (by decide +kernel), q⟩
theorem g_isi_int_bool  (q : Q (.bl false) H) : rIsi K [.int i, .ty "bool"] H Q := ⟨_, _, .type "int", .type "bool", false, rfl, .ty _, .base (.int i), kit_ty (by decide +kernel), q⟩
theorem g_isi_lst_list (h : H p = some (.lst xs)) (q : Q (.bl true) H) : rIsi K [.ref p, .ty "list"] H Q := ⟨_, _, .type "list", .type "list", true, rfl, .ty _, .base (.lst h), kit_ty (by decide +kernel), q⟩
end
/-! ### promises by the number of arguments -/
abbrev Sp0 (p : Hp → VK → XK → Prop) : Sp := fun vs H Q E => vs = [] ∧ p H Q E
abbrev Sp1 (p : V → Hp → VK → XK → Prop) : Sp := fun vs H Q E => ∃ a, vs = [a] ∧ p a H Q E
abbrev Sp2 (p : V → V → Hp → VK → XK → Prop) : Sp := fun vs H Q E => ∃ a b, vs = [a, b] ∧ p a b H Q E
abbrev Sp3 (p : V → V → V → Hp → VK → XK → Prop) : Sp := fun vs H Q E => ∃ a b c, vs = [a, b, c] ∧ p a b c H Q E
abbrev Sp4 (p : V → V → V → V → Hp → VK → XK → Prop) : Sp := fun vs H Q E => ∃ a b c d, vs = [a, b, c, d] ∧ p a b c d H Q E
abbrev Sp5 (p : V → V → V → V → V → Hp → VK → XK → Prop) : Sp := fun vs H Q E => ∃ a b c d e, vs = [a, b, c, d, e] ∧ p a b c d e H Q E

/-! ### heaps: all but some places is kept -/
/-- all that stood stands, but what is at the places of L -/
def Kp (L : List Addr) (H H' : Hp) : Prop := ∀ a o, H a = some o → a ∉ L → H' a = some o
theorem Kp.trans {L : List Addr} {H H1 H2 : Hp} (a : Kp L H H1) (b : Kp L H1 H2) : Kp L H H2 := fun c o h n => b c o (a c o h n) n
theorem Same.kp {H H' : Hp} (a : Same H H') (L : List Addr) : Kp L H H' := fun c o e _ => a c o e
theorem same_new {H : Hp} {p : Addr} {o : HO} (h : Fr H p) : Same H (upd H p o) := fun b x e => by
  rw [upd_ne (ne_of_none e h)]
  exact e
theorem kp_upd {H : Hp} {p : Addr} {o : HO} {L : List Addr} (h : p ∈ L) : Kp L H (upd H p o) := fun b x e n => by
  rw [upd_ne fun z => n (by rw [z]; exact h)]
  exact e
theorem Kp.new {L : List Addr} {H H' : Hp} {p : Addr} {o : HO} (a : Kp L H H') (h : Fr H' p) : Kp L H (upd H' p o) := a.trans (Same.kp (same_new h) L)
/-- a place that H did not know may change -/
theorem Kp.own {L : List Addr} {H H' : Hp} {p : Addr} {o : HO} (a : Kp L H H') (h : Fr H p) : Kp L H (upd H' p o) := fun b x e n => by
  rw [upd_ne (ne_of_none e h)]
  exact a b x e n
theorem SqT.kp {K : PySem.W.Frag} {L : List Addr} {H H' : Hp} {a : Addr} {xs : List V} (k : Kp L H H') (n : a ∉ L) (h : SqT K H a xs) : SqT K H' a xs := by
  rcases h with (h | ⟨o, h⟩) | h
  · exact .inl (.inl (k _ _ h n))
  · exact .inl (.inr ⟨o, k _ _ h n⟩)
  · exact .inr h
theorem SqL.kp {K : PySem.W.Frag} {L : List Addr} {H H' : Hp} {a : Addr} {xs : List V} (k : Kp L H H') (n : a ∉ L) (h : SqL K H a xs) : SqL K H' a xs := by
  rcases h with (h | ⟨o, h⟩) | h
  · exact .inl (.inl (k _ _ h n))
  · exact .inl (.inr ⟨o, k _ _ h n⟩)
  · exact .inr h
theorem get_kp {L : List Addr} {H H' : Hp} {p : Addr} {o : HO} (e : Kp L H H') (h : H p = some o) (n : p ∉ L) : H' p = some o := e p o h n
theorem at_new {H : Hp} {p a : Addr} {o u : HO} (hp : Fr H p) (h : H a = some o) : upd H p u a = some o := by
  rw [upd_ne (ne_of_none h hp)]
  exact h
theorem at_ne {H : Hp} {p a : Addr} {o u : HO} (n : a ≠ p) (h : H a = some o) : upd H p u a = some o := by
  rw [upd_ne n]
  exact h
theorem ne_new' {H : Hp} {p a : Addr} {o : HO} (hp : Fr H p) (h : H a = some o) : p ≠ a := (ne_of_none h hp).symm
theorem sm_new {H H' : Hp} {p : Addr} {o : HO} (hp : Fr H' p) (h : Same H H') : Same H (upd H' p o) := h.trans (same_new hp)
theorem sm_own {H H' : Hp} {p : Addr} {o : HO} (hp : Fr H p) (h : Same H H') : Same H (upd H' p o) := fun b x e => at_ne (ne_of_none e hp) (h b x e)
theorem fr_of {H H' : Hp} {p : Addr} (h : Fr H' p) (e : Same H H') : Fr H p := e.free h
theorem sql_new {K : PySem.W.Frag} {H : Hp} {p a : Addr} {o : HO} {xs : List V} (hp : Fr H p) (h : SqL K H a xs) : SqL K (upd H p o) a xs := Same.seq (same_new hp) h
theorem sq_or {K : PySem.W.Frag} {H : Hp} {p : Addr} {xs : List V} (h : H p = some (.lst xs)) : SqL K H p xs ∨ SqT K H p xs := .inl (SqL.of h)
theorem ite_f {c : Bool} {A B : Prop} (h : c = false) (x : B) : if c = true then A else B := by
  rw [h, if_neg Bool.false_ne_true]
  exact x
theorem ite_b {c : Bool} {A B : Prop} (h1 : c = true → A) (h2 : c = false → B) : if c = true then A else B := by
  cases c with
  | true => rw [if_pos rfl]; exact h1 rfl
  | false => rw [if_neg Bool.false_ne_true]; exact h2 rfl
theorem ite_d {p : Prop} [Decidable p] {A B : Prop} (h1 : p → A) (h2 : ¬ p → B) : if decide p = true then A else B := ite_b (fun h => h1 (of_decide_eq_true h)) fun h => h2 (of_decide_eq_false h)
theorem ite_nt {A B : Prop} (x : B) : if (!true) = true then A else B := ite_f rfl x
theorem ite_nd {p : Prop} [Decidable p] {A B : Prop} (h1 : p → B) (h2 : ¬ p → A) : if (!decide p) = true then A else B := ite_b (fun h => h2 (by simpa using h)) fun h => h1 (by simpa using h)
theorem ite_ndt {p : Prop} [Decidable p] {A B : Prop} (h : p) (x : B) : if (!decide p) = true then A else B := ite_f (by simpa using h) x
theorem int_eq {i j : Int} : decide (V.int i = V.int j) = decide (i = j) := by
  by_cases h : i = j
  · subst h; simp
  · simp [h]
theorem cut_to {xs : List V} {n : Int} (h : 0 ≤ n) : cutV xs none (some n) = xs.take n.toNat := by
  obtain ⟨k, rfl⟩ : ∃ k : Nat, n = k := ⟨n.toNat, by omega⟩
  unfold cutV
  rw [HT.sIx_none, HT.sIx_nat]
  simp only [List.drop_zero, Nat.sub_zero, Int.toNat_natCast]
  rw [List.take_eq_take_iff]
  simp
theorem at_k0 {xs : List V} {v : V} (h : xs[0]? = some v) : atI xs 0 = some v := atI_nat (j := 0) h
theorem at_k1 {xs : List V} {v : V} (h : xs[1]? = some v) : atI xs 1 = some v := atI_nat (j := 1) h
theorem ix_k0 {n : Nat} (h : 0 < n) : ixN n 0 = some 0 := by
  unfold ixN
  simp
  omega
theorem ix_k1 {n : Nat} (h : 1 < n) : ixN n 1 = some 1 := by
  unfold ixN
  simp
  omega
/-- one of a written list's items -/
theorem pick {xs : List V} {i : Int} (h0 : 0 ≤ i) (h : i < xs.length) : ∃ v, atI xs i = some v ∧ v ∈ xs := by
  have hj : i.toNat < xs.length := by omega
  have e : ((i.toNat : Nat) : Int) = i := by omega
  exact ⟨xs[i.toNat], by
    have h := atI_nat (List.getElem?_eq_getElem hj)
    rwa [e] at h, List.getElem_mem hj⟩
theorem g_pick2 {K : PySem.W.Frag} {H : Hp} {Q : VK} {p : Addr} {a b w : Int} (h : SqL K H p [.int a, .int b]) (h0 : 0 ≤ w) (h1 : w < 2) (q : ∀ v : Int, v = a ∨ v = b → Q (.int v) H) : rIxL K (.ref p) (.int w) H Q := by
  obtain ⟨v, hv, hm⟩ := pick (xs := [.int a, .int b]) h0 h1
  simp only [List.mem_cons, List.not_mem_nil, or_false] at hm
  rcases hm with rfl | rfl <;> exact ⟨p, _, w, _, rfl, rfl, h, hv, q _ (by simp)⟩
theorem g_pick3 {K : PySem.W.Frag} {H : Hp} {Q : VK} {p : Addr} {a b c w : Int} (h : SqL K H p [.int a, .int b, .int c]) (h0 : 0 ≤ w) (h1 : w < 3) (q : ∀ v : Int, v = a ∨ v = b ∨ v = c → Q (.int v) H) : rIxL K (.ref p) (.int w) H Q := by
  obtain ⟨v, hv, hm⟩ := pick (xs := [.int a, .int b, .int c]) h0 h1
  simp only [List.mem_cons, List.not_mem_nil, or_false] at hm
  rcases hm with rfl | rfl | rfl <;> exact ⟨p, _, w, _, rfl, rfl, h, hv, q _ (by simp)⟩
theorem g_pick5 {K : PySem.W.Frag} {H : Hp} {Q : VK} {p : Addr} {a b c d e w : Int} (h : SqL K H p [.int a, .int b, .int c, .int d, .int e]) (h0 : 0 ≤ w) (h1 : w < 5) (q : ∀ v : Int, v = a ∨ v = b ∨ v = c ∨ v = d ∨ v = e → Q (.int v) H) : rIxL K (.ref p) (.int w) H Q := by
  obtain ⟨v, hv, hm⟩ := pick (xs := [.int a, .int b, .int c, .int d, .int e]) h0 h1
  simp only [List.mem_cons, List.not_mem_nil, or_false] at hm
  rcases hm with rfl | rfl | rfl | rfl | rfl <;> exact ⟨p, _, w, _, rfl, rfl, h, hv, q _ (by simp)⟩
theorem g_pick {K : PySem.W.Frag} {H : Hp} {Q : VK} {p : Addr} {xs : List V} {w : Int} (h : SqL K H p xs) (h0 : 0 ≤ w) (h1 : w < xs.length) (q : ∀ v, v ∈ xs → Q v H) : rIxL K (.ref p) (.int w) H Q := by
  obtain ⟨v, hv, hm⟩ := pick (xs := xs) h0 h1
  exact ⟨p, _, w, _, rfl, rfl, h, hv, q _ hm⟩
theorem kp_tr {L : List Addr} {H H1 H2 : Hp} (b : Kp L H1 H2) (a : Kp L H H1) : Kp L H H2 := a.trans b
theorem kp_own {L : List Addr} {H H' : Hp} {p : Addr} {o : HO} (hp : Fr H p) (a : Kp L H H') : Kp L H (upd H' p o) := Kp.own a hp
theorem kp_new {L : List Addr} {H H' : Hp} {p : Addr} {o : HO} (hp : Fr H' p) (a : Kp L H H') : Kp L H (upd H' p o) := Kp.new a hp
theorem fr_kp {L : List Addr} {H H' : Hp} {p : Addr} (h : Fr H' p) (e : Kp L H H') (n : p ∉ L) : Fr H p := by
  replace h : H' p = none := h
  cases hH : H p with
  | none => exact hH
  | some o => rw [e p o hH n] at h; cases h
theorem fr_new {H : Hp} {p q : Addr} {o : HO} (h : Fr (upd H q o) p) : Fr H p := by
  replace h : upd H q o p = none := h
  show H p = none
  by_cases e : p = q
  · rw [e, upd_same] at h; cases h
  · rwa [upd_ne e] at h
theorem g_extend {H : Hp} {Q : VK} {p b : Addr} {xs zs : List V} (h : H p = some (.lst xs)) (h2 : H b = some (.lst zs)) (z : xs.length + zs.length ≤ sizeLine) (q : Q .non (upd H p (.lst (xs ++ zs)))) : rExtend (.ref p) [.ref b] H Q := ⟨p, b, xs, zs, rfl, rfl, h, h2, z, q⟩
theorem g_iZip {K : PySem.W.Frag} {σ : L2.St} {H : Hp} {ta : TA} {R : It → Hp → Prop} (h : ta σ H fun vs H1 => ∃ a b xs ys, vs = [.ref a, .ref b] ∧ SqL K H1 a xs ∧ SqL K H1 b ys ∧ R (Itz K a b) H1) : iZip K ta σ H R := h
theorem g_iZipb {K : PySem.W.Frag} {H : Hp} {a b : Addr} {xs ys : List V} {R : Addr → Addr → Prop} (h : SqL K H a xs) (h2 : SqL K H b ys) (q : R a b) : ∃ a' b' xs' ys', [V.ref a, V.ref b] = [.ref a', .ref b'] ∧ SqL K H a' xs' ∧ SqL K H b' ys' ∧ R a' b' := ⟨a, b, xs, ys, rfl, h, h2, q⟩
theorem g_cat {H : Hp} {Q : VK} {p b : Addr} {xs zs : List V} (h : H p = some (.lst xs)) (h2 : H b = some (.lst zs)) (z : xs.length + zs.length ≤ sizeLine) (q : ∀ l, Fr H l → Q (.ref l) (upd H l (.lst (xs ++ zs)))) : rCat (.ref p) (.ref b) H Q := ⟨p, b, xs, zs, rfl, rfl, h, h2, z, q⟩
theorem g_pickL {K : PySem.W.Frag} {H : Hp} {Q : VK} {p : Addr} {xs : List V} {w n : Int} (h : H p = some (.lst xs)) (h0 : 0 ≤ w) (h1 : w < n) (e : n = (xs.length : Nat)) (q : ∀ v, v ∈ xs → Q v H) : rIxL K (.ref p) (.int w) H Q := g_pick (SqL.of h) h0 (by rw [← e]; exact h1) q
/-! YG: defs that are only ever run while no display of a container goes on: what repr of lists and tuples wants. -/
open PySem PySem.Spec PyProof.Rows L2
/-- room, and no display under way -/
structure RoomG (k : Nat) (A : Around) : Prop where
  rm : Room k A
  no : A.guards = some []
theorem RoomG.mono {i k : Nat} {A : Around} (r : RoomG k A) (h : i ≤ k) : RoomG i A := ⟨r.rm.mono h, r.no⟩
theorem RoomG.deeper {k : Nat} {A : Around} (r : RoomG (k + 1) A) (v : Env) : RoomG k (A.deeper v) := ⟨r.rm.deeper v, r.no⟩
theorem RoomG.units {k : Nat} {A : Around} (r : RoomG k A) : A.units + 64 < cLine := r.rm.units
/-- a def keeps its promise wherever there is room and no display under way -/
structure FnG (P : Program) (w : World) (K : PySem.W.Frag) (mg : Str → Option Value) (base : Heap) (CX : CXT) (k : Nat) (f : Addr) (fd : FuncData) (ps : List Str) (sp : Sp) : Prop where
  len : ∀ vs H Q E, sp vs H Q E → vs.length = ps.length
  run : ∀ (A : Around) (outer : List Env) (s : Shared) (H : Hp) (args : Args) (us : List Value) (vs : List V) (Q : VK) (E : XK), RoomG k A → Env0 P w K mg base A outer s H → BindsTo s fd args (ps.zip us) → Vals vs us →
    sp vs H Q E → codeAny (model P w) A (.call (.ref f) args) (CR CX outer P w H s Q E) s
section
variable {X : Cx} {CX : CXT} {k : Nat} {f C : Addr} {fd : FuncData} {ps : List Str} {sp : Sp} {dvs : List V} {ds : List Value} {E : XK} {x m : Str} {p pos apos : Pos} {e o : Expr} {es : List Expr} {ta : TE} {t : TA} {pins : List (Addr × Obj)} {σ : L2.St} {H : Hp} {s : Shared} {Q : VK} {us : List Value} {vs : List V}
/-- the callee's run, from a body -/
theorem g_runs (F : FnG X.prog X.w X.K X.mg X.base CX k f fd ps sp) (room : RoomG k X.A) (bi : Binds X.K fd ps ds) (dv : Vals dvs ds) (pass : Passes CX X E) (I : Inv X pins σ H s) (rv : Vals vs us) (pr : sp (vs ++ dvs) H Q E) :
    wpAny (model X.prog X.w) X.A (call (.ref f) us) (EP X pins σ Q) X.xe s := by
  have whole := rv.append dv
  have n : (us ++ ds).length = ps.length := whole.length.symm.trans (F.len _ _ _ _ pr)
  refine wpAny_call (codeAny_mono (F.run _ _ _ _ _ _ _ _ _ room I.env0 (bi _ _ I.kIn n) whole pr) ?_)
  intro end_ s' h
  match end_, h with
  | .error _, h => exact pass _ _ _ _ _ _ I h
  | .ok (.ret _), h => exact I.after h
theorem g_pe_call (F : FnG X.prog X.w X.K X.mg X.base CX k f fd ps sp) (room : RoomG k X.A) (gl : Gl X x) (at_ : X.mg x = some (.ref f)) (kept : PySem.W.keepIn X.K (.ref f) = true) (bi : Binds X.K fd ps ds) (dv : Vals dvs ds) (pass : Passes CX X E) (args : PA X (e :: es) t)
    (nd : (x == ("__debug__" : Str)) = false := by decide) (st : starEach (e :: es) X.env = (false, eval e X.env) :: starEach es X.env := by rfl) (pl : (backTo pos (starEach es X.env)).any (·.1) = false := by rfl) :
    PE X (.Call (.Name x p) (e :: es) [] pos) (tCall sp dvs E t) := ⟨fun pins s σ H Q I h =>
  wpAny_Call_Name_kw (ld_glob I gl at_ (PySem.W.callWith_K (h₀ := X.base) I.ok.mod.kin kept (thn (args.run pos pins s σ H _ I h) fun _ _ ⟨_, _, I1, r, q⟩ => ⟨I1.kIn, g_runs F room bi dv pass I1 r q⟩) st pl) nd)⟩
end
section
variable {P : Program} {w : World} {K : PySem.W.Frag} {mg : Str → Option Value} {base : Heap} {CX : CXT} {k : Nat} {x qual : Str} {params : Arguments} {body : List Stmt} {scope : Scope} {dvs : List V} {kws : List (Str × V)} {f : Addr} {fd : FuncData} {N ps : List Str} {sp : Sp}
/-- a def of the text keeps its promise, by its body -/
theorem g_def (F : FunD K x qual params body scope dvs kws f fd) (S : FnScope N ps scope) (len : ∀ vs H Q E, sp vs H Q E → vs.length = ps.length)
    (inside : ∀ (cdv : Value) (A : Around) (outer : List Env) (s : Shared) (H : Hp) (vs : List V) (Q : VK) (E : XK), RoomG k (A.deeper (envOfC qual scope s.heap.objs.size f cdv)) → sp vs H Q E →
      ∃ t, PSs (cxOf CX P w K mg base N qual scope f cdv A outer s H E) body t ∧ t { nx := fun _ H' => Q .non H', rt := Q } (start N vs) H) : FnG P w K mg base CX (k + 1) f fd ps sp where
  len := len
  run := fun A outer s H args us vs Q E room e0 bi rv pr => by
    obtain ⟨_, _, dV, kV, doc, pm, an, cdv, ct, _, rfl, stands, code, -, -⟩ := F.ex
    have n := len _ _ _ _ pr
    have bs := fun b o e => (e0.bs b o e).1
    have hK : K.In s.heap := e0.mod.kin.keeps bs
    have par : ∀ y ∈ ps.zip us, scope.names.lookup y.1 = some .local ∨ (scope.names.lookup y.1 = some .cell ∧ ((cellsFrom (s.heap.objs.size + 1) scope.names []).lookup y.1).isSome = true) := fun y hy =>
      (S.par y.1 (List.of_mem_zip (show (y.1, y.2) ∈ ps.zip us from hy)).1).imp id fun z => ⟨z, PySem.W.cellsFrom_some _ _ _ (.inl z)⟩
    refine codeAny_call_function room.rm.depth (hK _ _ stands) rfl S.co S.gen rfl (PySem.W.codeRec_of hK code) (bi _ _ _ _ (wpAny_newFunctionEnv_cells S.kind par ?_))
    rintro _ rfl s1 into
    refine ⟨(e0.mod.nolimit.keeps bs).keeps into.toInCall.keep, codeAny_func ?_⟩
    obtain ⟨t, reads, holds⟩ := inside cdv A outer s H vs Q E (room.deeper _) pr
    have I := inv_start (CX := CX) (E := E) (cd := cdv) S room.rm.hd e0 n rv into
    refine wpAny_mono (reads.run [] s1 (start N vs) H _ I holds) ?_ fun _ _ z => z
    intro fl s' z
    match fl, z with
    | .ret _, ⟨v, _, H', J, rr, q⟩ => exact ⟨v, H', J.os, J.bare, J.base, J.hok, rr, q⟩
    | .next, ⟨_, H', J, q⟩ => exact ⟨.non, H', J.os, J.bare, J.base, J.hok, rfl, q⟩
    | .brk, ⟨_, _, _, q⟩ => exact q.elim
    | .cont, ⟨_, _, _, q⟩ => exact q.elim
end
/-! ### the law's end -/
section
variable {P : Program} {w : World} {K : PySem.W.Frag} {mg mb : Str → Option Value} {CX : CXT} {k : Nat} {fa a : Addr} {fd : FuncData} {x : Str} {sp : Sp} {s₁ : Shared} {vs : List Value} {ns : List Int}
/-- the law's call, from an abstract heap that knows nothing but the script -/
theorem g_top {H : Hp} (KX : K.In s₁.heap) (hns : s₁.heap.Ns mainGlobals mg) (hb : s₁.heap.Ns builtinsNs mb) (hbb : ∀ x : Str, x ≠ "__name__" → mb x = bootBuiltins x) (hlim : s₁.heap.NoLimit) (hg : s₁.gens = #[])
    (ha : s₁.heap.get? a = some { cls := .type "list", data := .seq vs.toArray }) (room : RoomG k callerA)
    (F : ∀ base : Heap, K.In base → base.Ns mainGlobals mg → FnG P w K mg base CX k fa fd [x] sp) (bi : ∀ (s : Shared) (u : Value), BindsTo s fd ⟨[u], []⟩ [(x, u)])
    (pr : sp [.ref a] H (fun v _ => v = .bl true) fun _ _ _ => False) (no : ∀ e s', CX [] H s₁ (fun _ _ _ => False) e s' → False)
    (only : Only H) (ok : HOk P w H s₁.heap) (hA : ∀ b, H b ≠ none → b = a) (hK : H a ≠ none → K.lookup a = none) :
    codeAny (model P w) callerA (.call (.ref fa) ⟨[.ref a], []⟩) (fun r s' => r = .ok (.ret (.bool true)) ∧ OldK s₁.heap s'.heap ∧ s'.os = s₁.os ∧ AllBare s'.gens) s₁ := by
  have dictFree : ∀ {b : Addr} {o : Obj} {es : Array DictEntry} {n : Nat}, s₁.heap.get? b = some o → o.data = .dict es n → H b = none := by
    intro b o es n e d
    by_cases z : H b = none
    · exact z
    · obtain rfl := hA b z
      cases ha.symm.trans e
      cases d
  have space : ∀ {b : Addr} {m : Str → Option Value}, s₁.heap.Ns b m → (hidT s₁.heap H).Ns b m := by
    rintro b m ⟨o, es, n, e, d, rest⟩
    exact ⟨o, es, n, hidT_get e (dictFree e d), d, rest⟩
  have mine : K.In (hidT s₁.heap H) := by
    intro b o e
    refine hidT_get (KX b o e) ?_
    by_cases z : H b = none
    · exact z
    · obtain rfl := hA b z
      rw [hK z] at e
      cases e
  have lim : (hidT s₁.heap H).NoLimit := by
    obtain ⟨m, h1, h2⟩ := hlim
    exact ⟨m, space h1, h2⟩
  have e0 : Env0 P w K mg (hidT s₁.heap H) callerA [] s₁ H :=
    { frames := rfl, mod := ⟨mine, space hns, ⟨mb, space hb, hbb⟩, lim⟩, bs := fun _ _ e => of_hidT e, bsz := Nat.le_of_eq (hidT_size _ _), funs := trivial, frf := fun b z => absurd (show b ∈ ([] : List Addr) from z) (by simp), hok := ok, bare := .of_eq hg }
  refine codeAny_mono ((F _ mine (space hns)).run callerA [] s₁ H ⟨[.ref a], []⟩ [.ref a] [.ref a] _ _ room e0 (bi s₁ (.ref a)) (.cons rfl .nil) pr) ?_
  intro end_ s' z
  match end_, z with
  | .error _, z => exact (no _ _ z).elim
  | .ok (.ret u), ⟨v, H', os, bare, un, ok', rr, q⟩ =>
    obtain rfl : v = .bl true := q
    obtain rfl : u = Value.bool true := rr
    refine ⟨rfl, OldK.of_keep fun b o e => ?_, os, bare⟩
    rcases only b with z | ⟨ob, xs, z⟩
    · exact un.keep b o e z (fun y => absurd (show b ∈ ([] : List Addr) from y) (by simp)) (by simp)
    · obtain ⟨y1, -⟩ := ok b _ z
      obtain ⟨y2, -⟩ := ok' b _ (un.frzs b ob _ z)
      cases e.symm.trans y1
      exact y2
theorem g_law (KX : K.In s₁.heap) (hns : s₁.heap.Ns mainGlobals mg) (hb : s₁.heap.Ns builtinsNs mb) (hbb : ∀ x : Str, x ≠ "__name__" → mb x = bootBuiltins x) (hlim : s₁.heap.NoLimit) (hg : s₁.gens = #[])
    (ha : s₁.heap.get? a = some { cls := .type "list", data := .seq vs.toArray }) (hi : IntsAre vs ns) (hl : ns.length ≤ sizeLine) (room : RoomG k callerA)
    (F : ∀ base : Heap, K.In base → base.Ns mainGlobals mg → FnG P w K mg base CX k fa fd [x] sp) (bi : ∀ (s : Shared) (u : Value), BindsTo s fd ⟨[u], []⟩ [(x, u)])
    (pr : ∀ H : Hp, Only H → SqL K H a (ns.map V.int) → sp [.ref a] H (fun v _ => v = .bl true) fun _ _ _ => False) (no : ∀ H e s', CX [] H s₁ (fun _ _ _ => False) e s' → False) :
    codeAny (model P w) callerA (.call (.ref fa) ⟨[.ref a], []⟩) (fun r s' => r = .ok (.ret (.bool true)) ∧ OldK s₁.heap s'.heap ∧ s'.os = s₁.os ∧ AllBare s'.gens) s₁ := by
  have rv := vals_ints hi
  have n := hi.length
  rcases hk : K.lookup a with _ | o
  · let o0 : Obj := { cls := .type "list", data := .seq vs.toArray }
    let H : Hp := fun b => if b = a then some (.frz o0 (.lst (ns.map V.int))) else none
    have Ha : H a = some (.frz o0 (.lst (ns.map V.int))) := if_pos rfl
    have Hn : ∀ b, b ≠ a → H b = none := fun b z => if_neg z
    have only : Only H := fun b => if z : b = a then .inr ⟨o0, ns.map V.int, by rw [z]; exact Ha⟩ else .inl (Hn b z)
    refine g_top (H := H) KX hns hb hbb hlim hg ha room F bi (pr H only (.inl (.inr ⟨o0, Ha⟩))) (no H) only ?_ (fun b z => ?_) fun _ => hk
    · intro b u z
      by_cases y : b = a
      · subst y
        cases Ha.symm.trans z
        exact ⟨ha, by rw [List.length_map]; exact hl, vs, _, rv, ha⟩
      · cases (Hn b y).symm.trans z
    · by_cases y : b = a
      · exact y
      · exact absurd (Hn b y) z
  · cases (KX a o hk).symm.trans ha
    have only : Only fun _ => none := fun _ => .inl rfl
    exact g_top (H := fun _ => none) KX hns hb hbb hlim hg ha room F bi (pr _ only (.inr ⟨_, vs.toArray, _, hk, rfl, rfl, rfl, by rw [List.size_toArray, n]; exact hl, by simpa using rv⟩)) (no _) only (fun b u z => nomatch (show (none : Option HO) = some u from z)) (fun b z => absurd rfl z) fun z => absurd rfl z
end
/-- a law, of defs that are run while no display goes on -/
theorem g_walk {l : PySem.W.OpenLaw} {n k : Nat} {q : Program} {loose : List Str} {XP : (Str → Option Value) → Heap → Prop} {YP : World → Heap → Prop} {d : DefRec} {CX : CXT} {x : Str} (hn : l.most = some n) (hn2 : n ≤ sizeLine) (hdf : d.params.defaults = []) (room : Room k callerA)
    (F : ∀ (w : World) (mg : Str → Option Value) (fa : Addr) (h : Heap), YP w h → h.Ns mainGlobals mg → mg d.name = some (.ref fa) →
      ∃ (K : PySem.W.Frag) (fd : FuncData) (sp : Sp), K.In h ∧ (∀ (s : Shared) (u : Value), BindsTo s fd ⟨[u], []⟩ [(x, u)]) ∧
        (∀ (H : Hp) (a : Addr) (ns : List Int), ns.length ≤ n → Only H → SqL K H a (ns.map V.int) → sp [.ref a] H (fun v _ => v = .bl true) fun _ _ _ => False) ∧ ∀ base : Heap, K.In base → base.Ns mainGlobals mg → FnG l.prog w K mg base CX k fa fd [x] sp)
    (no : ∀ (H : Hp) (s : Shared) (e : Value) (s' : Shared), CX [] H s (fun _ _ _ => False) e s' → False) : PySem.W.WalkO q loose XP YP l.row.toRowW d [] (fun f vs => PySem.call f vs) := by
  refine Att.attach_call hn hdf ?_
  intro w s₀ s₁ mg mb fa o pm cd doc a vs ns G Y ho hd hcd hmg hobj hints hlen hg
  obtain ⟨K, fd, sp, KX, bi, pr, hF⟩ := F w mg fa _ Y G.T.g hmg
  exact g_law KX G.T.g G.T.b G.T.builtins G.T.nolimit hg hobj hints (Nat.le_trans hlen hn2) ⟨room, rfl⟩ hF bi (fun H => pr H a ns hlen) (fun H => no H s₁)
/-! ### repr of data -/
/-- repr(x) of data -/
def rReprD (K : PySem.W.Frag) : List V → Hp → VK → Prop := fun vs H Q => ∃ x d, vs = [x] ∧ Dp K H x d ∧ d.showable = true ∧ d.hasDict = false ∧ d.depth ≤ 60 ∧ d.shown.length ≤ sizeLine ∧ Q (.str d.shown) H
/-! ### a def that may be called by its name, a class that may be made, a method -/
structure Cal (P : Program) (w : World) (K : PySem.W.Frag) (mg : Str → Option Value) (base : Heap) (CX : CXT) (k : Nat) (x : Str) (sp : Sp) (dvs : List V) : Prop where
  ex : ∃ (f : Addr) (fd : FuncData) (ps : List Str) (ds : List Value), FnG P w K mg base CX k f fd ps sp ∧ mg x = some (.ref f) ∧ PySem.W.keepIn K (.ref f) = true ∧ Binds K fd ps ds ∧ Vals dvs ds
structure Mak (P : Program) (w : World) (K : PySem.W.Frag) (mg : Str → Option Value) (base : Heap) (CX : CXT) (k : Nat) (x : Str) (C : Addr) (sp : Sp) (dvs : List V) : Prop where
  ex : ∃ (f : Addr) (fd : FuncData) (ps : List Str) (ds : List Value), Mk K C f ∧ FnG P w K mg base CX k f fd ps sp ∧ mg x = some (.ref C) ∧ Binds K fd ps ds ∧ Vals dvs ds
structure Met (P : Program) (w : World) (K : PySem.W.Frag) (mg : Str → Option Value) (base : Heap) (CX : CXT) (k : Nat) (C : Addr) (m : Str) (sp : Sp) (dvs : List V) : Prop where
  ex : ∃ (f : Addr) (fd : FuncData) (ps : List Str) (ds : List Value), Cls K C ∧ Meth K C m f ∧ FnG P w K mg base CX k f fd ps sp ∧ Binds K fd ps ds ∧ Vals dvs ds
section
variable {X : Cx} {CX : CXT} {E : XK} {k j : Nat} {C : Addr} {x m : Str} {sp : Sp} {dvs : List V} {p pos apos : Pos} {e o : Expr} {es : List Expr} {ta : TE} {t : TA}
theorem pe_c (c : Cal X.prog X.w X.K X.mg X.base CX k x sp dvs) (hr : RoomG j X.A) (hk : k ≤ j) (hg : Gl X x) (hx : Passes CX X E) (ha : PA X (e :: es) t)
    (hdb : (x == ("__debug__" : Str)) = false := by decide) (he : starEach (e :: es) X.env = (false, eval e X.env) :: starEach es X.env := by rfl) (hpl : (backTo pos (starEach es X.env)).any (·.1) = false := by rfl) :
    PE X (.Call (.Name x p) (e :: es) [] pos) (tCall sp dvs E t) := by
  obtain ⟨f, fd, ps, ds, F, hm, kp, b, d⟩ := c.ex
  exact g_pe_call F (hr.mono hk) hg hm kp b d hx ha hdb he hpl
end
section
open PySem PySem.W PySem.Calls PyProof.Rows
set_option maxRecDepth 100000 in
open PySem PySem.Spec PyProof.Rows L2 in
set_option maxHeartbeats 0 in
theorem early (S : PySem.W.Frag → Sp) (ask : ∀ (K : PySem.W.Frag), ∀ (H : L2.Hp) (a : Addr) (ns : List Int), ns.length ≤ 63 → Only H → L2.SqL K H a (ns.map L2.V.int) → S K [.ref a] H (fun v _ => v = .bl true) fun _ _ _ => False)
    (facts : ∀ {P : Program} {w : World} {K : PySem.W.Frag} {h : Heap} {mg : PySem.Str → Option Value} {f : Addr}, K.In h → h.Ns mainGlobals mg → mg ("law" : PySem.Str) = some (.ref f) → He.SaysD YHd.fa YHd.fn K → ∃ fd : FuncData, (∀ (s : Shared) (v : Value), BindsTo s fd ⟨[v], []⟩ [("_law_script", v)]) ∧ ∀ base : Heap, K.In base → base.Ns mainGlobals mg → FnG P w K mg base L2.CX0 4 f fd ["_law_script"] (S K)) : PySem.Challenge.rw_stayprice_k76_rooms_dealt.Holds := by
  w_on; o_law
  refine HandSHeadRun.head_any (r := OpenLaw.row PySem.Challenge.rw_stayprice_k76_rooms_dealt) (q := view (OpenLaw.row PySem.Challenge.rw_stayprice_k76_rooms_dealt).prog [10]) (H := YHd.hk) (ob := YHd.ob) (M := 6000) (loose := YHd.loose) (d := HandSHeadRun.topDef (OpenLaw.row PySem.Challenge.rw_stayprice_k76_rooms_dealt).prog 10) (kwd := []) YHd.ob_eq
    (by kernel_rfl) (fun s => by kernel_rfl) YHd.run (by kernel_rfl) (by kernel_rfl) (by kernel_rfl) (by rfl) (by first | assumption | decide +kernel) (by decide +kernel) ⟨rfl, rfl, rfl, rfl, rfl, by decide +kernel⟩ ?hw ?hc
  case hw => w_witness2
  case hc =>
    refine Y.g_walk (l := PySem.Challenge.rw_stayprice_k76_rooms_dealt) (n := 63) (k := 4) (x := "_law_script") (CX := L2.CX0) rfl (by decide) (by kernel_rfl) ⟨rfl, by decide, by decide⟩ ?F (fun _ _ _ _ z => z)
    intro w mg fa h Y G hmg0
    obtain ⟨K, KX, c⟩ := Y
    have hmg : mg ("law" : PySem.Str) = some (.ref fa) := by
      have e : (HandSHeadRun.topDef (OpenLaw.row PySem.Challenge.rw_stayprice_k76_rooms_dealt).prog 10).name = ("law" : PySem.Str) := by kernel_rfl
      rw [← e]
      exact hmg0
    obtain ⟨fd, hb, hF⟩ := facts (P := (PySem.Challenge.rw_stayprice_k76_rooms_dealt).prog) (w := w) KX G hmg c
    exact ⟨K, fd, S K, KX, hb, fun H a ns hl ho hS => ask K H a ns hl ho hS, hF⟩
end
/-! YD: data (lists, tuples, numbers, truths, texts, None) and their ==. -/
open PySem PySem.Spec PyProof.Rows L2
theorem shaped_of {d : PyData} (h : d.canLay0 = true) (k : d.depth ≤ 64) : SeqAt.shaped d = true := by
  unfold SeqAt.shaped
  rw [h, decide_eq_true k]; rfl
theorem canLay_all {xs : List PyData} (h : ∀ x ∈ xs, x.canLay0 = true) : PyData.canLayAll0 xs = true := by
  induction xs with
  | nil => rfl
  | cons x r ih => rw [PyData.canLayAll0, h x (by simp), ih fun y hy => h y (by simp [hy])]; rfl
theorem depth_all {xs : List PyData} {n : Nat} (h : ∀ x ∈ xs, x.depth ≤ n) : PyData.depthAll xs ≤ n := by
  induction xs with
  | nil => exact Nat.zero_le _
  | cons x r ih =>
    rw [PyData.depthAll]
    exact Nat.max_le.mpr ⟨h x (by simp), ih fun y hy => h y (by simp [hy])⟩
/-- data that stand at most so deep -/
def Sh (n : Nat) (d : PyData) : Prop := d.canLay0 = true ∧ d.depth ≤ n
theorem Sh.ok {n : Nat} {d : PyData} (h : Sh n d) (k : n ≤ 64) : SeqAt.shaped d = true := shaped_of h.1 (Nat.le_trans h.2 k)
theorem sh_int (i : Int) (n : Nat) : Sh n (.int i) := ⟨by simp [PyData.canLay0], by simp [PyData.depth]⟩
theorem sh_lst {n : Nat} {xs : List PyData} (h : ∀ x ∈ xs, Sh n x) : Sh (n + 1) (.list xs) :=
  ⟨by rw [PyData.canLay0]; exact canLay_all fun x hx => (h x hx).1, by rw [PyData.depth]; exact Nat.succ_le_succ (depth_all fun x hx => (h x hx).2)⟩
theorem sh_tup {n : Nat} {xs : List PyData} (h : ∀ x ∈ xs, Sh n x) : Sh (n + 1) (.tuple xs) :=
  ⟨by rw [PyData.canLay0]; exact canLay_all fun x hx => (h x hx).1, by rw [PyData.depth]; exact Nat.succ_le_succ (depth_all fun x hx => (h x hx).2)⟩
/-! ### lists of whole numbers, of truths -/
theorem dp_ints {K : PySem.W.Frag} {H : Hp} : ∀ ns : List Int, DpAll K H (ns.map V.int) (ns.map PyData.int)
  | [] => .nil
  | n :: r => .cons (.int n) (dp_ints r)
theorem sh_ints (ns : List Int) (n : Nat) : Sh (n + 1) (.list (ns.map PyData.int)) := sh_lst fun x hx => by
  obtain ⟨i, _, rfl⟩ := List.mem_map.mp hx
  exact sh_int i n
theorem eqv_ints : ∀ ns ms : List Int, PyData.eqvAll (ns.map PyData.int) (ms.map PyData.int) = decide (ns = ms)
  | [], [] => rfl
  | [], m :: ms => by simp [PyData.eqvAll]
  | n :: ns, [] => by simp [PyData.eqvAll]
  | n :: ns, m :: ms => by
    rw [List.map_cons, List.map_cons, PyData.eqvAll, eqv_ints ns ms, PyData.eqv]
    by_cases h : n = m <;> simp [h]
section
variable {K : PySem.W.Frag} {H : Hp} {Q : VK} {p q : Addr} {ns ms : List Int} {x y : V} {d e : PyData} {n : Nat}
theorem g_eqD_ints (h : SqL K H p (ns.map V.int)) (h' : SqL K H q (ms.map V.int)) (k : Q (.bl (decide (ns = ms))) H) : rEqD K (.ref p) (.ref q) H Q :=
  ⟨_, _, .lst h (dp_ints ns), .lst h' (dp_ints ms), (sh_ints ns 0).ok (by decide), (sh_ints ms 0).ok (by decide), by rw [PyData.eqv, eqv_ints]; exact k⟩
theorem g_neD_ints (h : SqL K H p (ns.map V.int)) (h' : SqL K H q (ms.map V.int)) (k : Q (.bl (!decide (ns = ms))) H) : rNeD K (.ref p) (.ref q) H Q :=
  ⟨_, _, .lst h (dp_ints ns), .lst h' (dp_ints ms), (sh_ints ns 0).ok (by decide), (sh_ints ms 0).ok (by decide), by rw [PyData.eqv, eqv_ints]; exact k⟩
end
/-- the days from c to ahead of g -/
def days (c g : Int) : List Int := (List.range (g - c).toNat).map fun i : Nat => c + (i : Int)
theorem rgV_days (c g : Int) : rgV c g = (days c g).map V.int := by
  unfold rgV days
  rw [List.map_map]
  rfl
theorem days_len (c g : Int) : (days c g).length = (g - c).toNat := by unfold days; rw [List.length_map, List.length_range]
/-! YM: lists of stretches, their days, the one rising list of few stretches. -/
open PySem
abbrev Pr : Type := Int × Int
def hasD (ts : List Pr) (d : Int) : Bool := ts.any fun p => decide (p.1 ≤ d) && decide (d ≤ p.2)
/-- each is none of the wrong way round -/
def Up (ts : List Pr) : Prop := ∀ p ∈ ts, p.1 ≤ p.2
/-- rising, a day between each two -/
structure Can (ts : List Pr) : Prop where
  up : Up ts
  gap : ts.Pairwise fun p q => p.2 + 1 < q.1
/-- one turn of the spreading: the last stretch ahead is made longer, or a new one is laid -/
def sprTurn (F : List Pr) (p : Pr) : List Pr := match F.getLast? with
  | some l => if p.1 ≤ l.2 + 1 then F.dropLast ++ [(l.1, max l.2 p.2)] else F ++ [p]
  | none => [p]
/-- what holds between the turns: F is rising, each of its stretches begins no later than what comes -/
structure SprIn (F : List Pr) (seen : List Pr) : Prop where
  can : Can F
  days : ∀ d, hasD F d = hasD seen d
  low : ∀ q ∈ F, ∃ r ∈ seen, q.1 = r.1
/-- what one stretch lacks of another -/
def wo (p q : Pr) : List Pr := (if p.1 < q.1 then [(p.1, min p.2 (q.1 - 1))] else []) ++ if q.2 < p.2 then [(max p.1 (q.2 + 1), p.2)] else []
def OkD (p : Pr) : Prop := 0 ≤ p.1 ∧ p.1 ≤ p.2 ∧ p.2 ≤ 1000000
/-! YT: the law's tape in the heap; tuples that stay. -/
open PySem PySem.Spec PyProof.Rows L2
/-- a row of draws at t: a great number's rest, a stream's last number (the places b and s are t) -/
def Tape (H : Hp) (t b s : Addr) : Prop := t = b ∧ t = s ∧ ∃ a c : Int, H t = some (.lst [.int a, .int c]) ∧ 0 ≤ a ∧ 0 ≤ c ∧ c < 2147483648
theorem tape_lst {H : Hp} {t b s : Addr} (T : Tape H t b s) : (∃ xs, H t = some (.lst xs)) ∧ ∃ xs, H b = some (.lst xs) := by
  obtain ⟨rfl, rfl, a, c, h, -⟩ := T
  exact ⟨⟨_, h⟩, ⟨_, h⟩⟩
theorem log9 {m : Int} (h0 : 0 < m) (h : m < 2 ^ 250) : m.natAbs.log2 < 9000 :=
  Nat.lt_trans (PySem.Flt.log2_lt_of (k := 250) (by decide) (by
    have e : (m.natAbs : Int) = m := by omega
    have h2 : (m.natAbs : Int) < ((2 ^ 250 : Nat) : Int) := by rw [e]; exact h
    exact Int.ofNat_lt.mp h2)) (by decide)
theorem ni_tape {H : Hp} {t b s p : Addr} (hp : Fr H p) (T : Tape H t b s) : p ∉ [t, b] := by
  replace hp : H p = none := hp
  obtain ⟨⟨_, h1⟩, _, h2⟩ := tape_lst T
  intro h
  rcases List.mem_cons.mp h with e | h
  · rw [e, h1] at hp; cases hp
  · rw [List.mem_singleton.mp h, h2] at hp; cases hp
theorem tape_same {H H' : Hp} {t b s : Addr} (e : Same H H') (T : Tape H t b s) : Tape H' t b s := by
  obtain ⟨n1, n2, a, c, h, z⟩ := T
  exact ⟨n1, n2, a, c, e _ _ h, z⟩
theorem tape_new {H : Hp} {t b s p : Addr} {o : HO} (hp : Fr H p) (T : Tape H t b s) : Tape (upd H p o) t b s := tape_same (same_new hp) T
theorem tape_own {H H0 : Hp} {t b s p : Addr} {o : HO} (hp : Fr H0 p) (T0 : Tape H0 t b s) (T : Tape H t b s) : Tape (upd H p o) t b s := by
  obtain ⟨n1, n2, a, c, h, z⟩ := T
  obtain ⟨_, _, _, _, k, _⟩ := T0
  exact ⟨n1, n2, a, c, at_ne (ne_of_none k hp) h, z⟩
/-- the tuples stay -/
def Tk (H H' : Hp) : Prop := ∀ a xs, H a = some (.tup xs) → H' a = some (.tup xs)
theorem Tk.trans {H H1 H2 : Hp} (a : Tk H H1) (b : Tk H1 H2) : Tk H H2 := fun c xs h => b c xs (a c xs h)
theorem Same.tk {H H' : Hp} (e : Same H H') : Tk H H' := fun a xs h => e _ _ h
theorem tk_new {H : Hp} {p : Addr} {o : HO} (h : Fr H p) : Tk H (upd H p o) := Same.tk (same_new h)
theorem tk_put {H : Hp} {p : Addr} {o : HO} {zs : List V} (h : H p = some (.lst zs)) : Tk H (upd H p o) := fun a xs e => at_ne (fun z => by rw [z, h] at e; cases e) e
theorem tk_kp {H H' : Hp} {t b s : Addr} (T : Tape H t b s) (k : Kp [t, b] H H') : Tk H H' := fun a xs e => k a _ e fun m => by
  obtain ⟨⟨_, h1⟩, _, h2⟩ := tape_lst T
  rcases List.mem_cons.mp m with z | m
  · rw [z, h1] at e; cases e
  · rw [List.mem_singleton.mp m, h2] at e; cases e
theorem g_pk2 {K : PySem.W.Frag} {H : Hp} {Q : VK} {p : Addr} {xs : List V} {a b w : Int} (h : H p = some (.lst xs)) (hxs : xs = [.int a, .int b]) (h0 : 0 ≤ w) (h1 : w < 2) (q : ∀ v : Int, v = a ∨ v = b → Q (.int v) H) : rIxL K (.ref p) (.int w) H Q := by
  subst hxs
  exact g_pick2 (SqL.of h) h0 h1 q
theorem g_pk3 {K : PySem.W.Frag} {H : Hp} {Q : VK} {p : Addr} {xs : List V} {a b c w : Int} (h : H p = some (.lst xs)) (hxs : xs = [.int a, .int b, .int c]) (h0 : 0 ≤ w) (h1 : w < 3) (q : ∀ v : Int, v = a ∨ v = b ∨ v = c → Q (.int v) H) : rIxL K (.ref p) (.int w) H Q := by
  subst hxs
  exact g_pick3 (SqL.of h) h0 h1 q
theorem g_pk5 {K : PySem.W.Frag} {H : Hp} {Q : VK} {p : Addr} {xs : List V} {a b c d e w : Int} (h : H p = some (.lst xs)) (hxs : xs = [.int a, .int b, .int c, .int d, .int e]) (h0 : 0 ≤ w) (h1 : w < 5) (q : ∀ v : Int, v = a ∨ v = b ∨ v = c ∨ v = d ∨ v = e → Q (.int v) H) : rIxL K (.ref p) (.int w) H Q := by
  subst hxs
  exact g_pick5 (SqL.of h) h0 h1 q
/-! YP: pairs of whole numbers in the heap; comprehensions that make nothing but their list. -/
open PySem PySem.Spec PyProof.Rows L2
/-- v is a tuple of the pair p -/
def PrAt (G : Hp) (v : V) (p : Pr) : Prop := ∃ t, v = .ref t ∧ G t = some (.tup [.int p.1, .int p.2])
abbrev PrsAt (G : Hp) : List V → List Pr → Prop := Paired (PrAt G)
theorem Paired.app {α β : Type} {F : α → β → Prop} : ∀ {as : List α} {bs : List β} {cs : List α} {ds : List β}, Paired F as bs → Paired F cs ds → Paired F (as ++ cs) (bs ++ ds)
  | _, _, _, _, .nil, h => h
  | _, _, _, _, .cons r t, h => .cons r (Paired.app t h)
theorem Paired.getL {α β : Type} {F : α → β → Prop} : ∀ {as : List α} {bs : List β} {i : Nat} {a : α}, Paired F as bs → as[i]? = some a → ∃ b, bs[i]? = some b ∧ F a b
  | _, _, _, _, .nil, e => by simp at e
  | _, _, 0, _, .cons r _, e => by simp at e; subst e; exact ⟨_, rfl, r⟩
  | _, _, i + 1, a, .cons r t, e => by
    obtain ⟨b, h1, h2⟩ := Paired.getL (i := i) t (by simpa using e)
    exact ⟨b, by simpa using h1, h2⟩
/-- the pair that stands at a value -/
def kOf (G : Hp) : V → Pr
  | .ref t => match G t with
    | some (.tup [.int i, .int j]) => (i, j)
    | _ => (0, 0)
  | _ => (0, 0)
theorem kOf_at {G : Hp} {v : V} {p : Pr} (h : PrAt G v p) : kOf G v = p := by
  obtain ⟨t, rfl, e⟩ := h
  simp only [kOf, e]
theorem prs_map {G : Hp} : ∀ {xs : List V} {ts : List Pr}, PrsAt G xs ts → ts = xs.map (kOf G)
  | _, _, .nil => rfl
  | _, _, .cons r t => by rw [List.map_cons, kOf_at r, ← prs_map t]
theorem pr_tk {G G' : Hp} {v : V} {p : Pr} (e : Tk G G') (h : PrAt G v p) : PrAt G' v p := let ⟨t, a, b⟩ := h; ⟨t, a, e _ _ b⟩
theorem prs_tk {G G' : Hp} {xs : List V} {ts : List Pr} (e : Tk G G') (h : PrsAt G xs ts) : PrsAt G' xs ts := Paired.mapP h fun _ _ q => pr_tk e q
theorem prs_new {H : Hp} {xs : List V} {ts : List Pr} {p : Addr} {o : HO} (hp : Fr H p) (h : PrsAt H xs ts) : PrsAt (upd H p o) xs ts := prs_tk (tk_new hp) h
theorem prs_put {H : Hp} {xs zs : List V} {ts : List Pr} {p : Addr} {o : HO} (hp : H p = some (.lst zs)) (h : PrsAt H xs ts) : PrsAt (upd H p o) xs ts := prs_tk (tk_put hp) h
theorem prs_same {H H' : Hp} {xs : List V} {ts : List Pr} (e : Same H H') (h : PrsAt H xs ts) : PrsAt H' xs ts := prs_tk (Same.tk e) h
theorem prs_kp {H H' : Hp} {xs : List V} {ts : List Pr} {t b s : Addr} (k : Kp [t, b] H H') (T : Tape H t b s) (h : PrsAt H xs ts) : PrsAt H' xs ts := prs_tk (tk_kp T k) h
theorem pr_new {H : Hp} {v : V} {q : Pr} {p : Addr} {o : HO} (hp : Fr H p) (h : PrAt H v q) : PrAt (upd H p o) v q := pr_tk (tk_new hp) h
theorem pr_same {H H' : Hp} {v : V} {q : Pr} (e : Same H H') (h : PrAt H v q) : PrAt H' v q := pr_tk (Same.tk e) h
theorem pr_kp {H H' : Hp} {v : V} {q : Pr} {t b s : Addr} (k : Kp [t, b] H H') (T : Tape H t b s) (h : PrAt H v q) : PrAt H' v q := pr_tk (tk_kp T k) h
theorem prs_app {H : Hp} {xs ys : List V} {ts us : List Pr} (h : PrsAt H xs ts) (r : PrsAt H ys us) : PrsAt H (xs ++ ys) (ts ++ us) := Paired.app h r
theorem prs_nil {H : Hp} : PrsAt H [] [] := .nil
/-! ### as data -/
def prD (p : Pr) : PyData := .tuple [.int p.1, .int p.2]
theorem dp_pr {K : PySem.W.Frag} {H : Hp} {v : V} {p : Pr} (h : PrAt H v p) : Dp K H v (prD p) := by
  obtain ⟨t, rfl, e⟩ := h
  exact .tup (SqT.of e) (.cons (.int _) (.cons (.int _) .nil))
theorem dp_prs {K : PySem.W.Frag} {H : Hp} : ∀ {xs : List V} {ts : List Pr}, PrsAt H xs ts → DpAll K H xs (ts.map prD)
  | _, _, .nil => .nil
  | _, _, .cons r t => .cons (dp_pr r) (dp_prs t)
theorem sh_pr (p : Pr) (n : Nat) : Sh (n + 1) (prD p) := sh_tup fun x hx => by
  rcases List.mem_cons.mp hx with e | hx
  · rw [e]; exact sh_int _ _
  · rw [List.mem_singleton.mp hx]; exact sh_int _ _
theorem sh_prs (ts : List Pr) (n : Nat) : Sh (n + 2) (.list (ts.map prD)) := sh_lst fun x hx => by
  obtain ⟨p, _, rfl⟩ := List.mem_map.mp hx
  exact sh_pr p n
theorem eqv_pr (p q : Pr) : PyData.eqv (prD p) (prD q) = decide (p = q) := by
  unfold prD
  rw [PyData.eqv, PyData.eqvAll, PyData.eqvAll, PyData.eqvAll, PyData.eqv, PyData.eqv, Bool.eq_iff_iff]
  simp [Prod.ext_iff]
theorem eqv_prs : ∀ ts us : List Pr, PyData.eqvAll (ts.map prD) (us.map prD) = decide (ts = us)
  | [], [] => rfl
  | [], m :: ms => by simp [PyData.eqvAll]
  | n :: ns, [] => by simp [PyData.eqvAll]
  | n :: ns, m :: ms => by
    rw [List.map_cons, List.map_cons, PyData.eqvAll, eqv_prs ns ms, eqv_pr]
    by_cases h : n = m <;> simp [h]
section
variable {K : PySem.W.Frag} {H : Hp} {Q : VK} {p q : Addr} {xs ys : List V} {ts us : List Pr}
theorem g_neD_prs (h : SqL K H p xs) (h' : SqL K H q ys) (t : PrsAt H xs ts) (u : PrsAt H ys us) (k : Q (.bl (!decide (ts = us))) H) : rNeD K (.ref p) (.ref q) H Q :=
  ⟨_, _, .lst h (dp_prs t), .lst h' (dp_prs u), (sh_prs ts 0).ok (by decide), (sh_prs us 0).ok (by decide), by rw [PyData.eqv, eqv_prs]; exact k⟩
end
theorem jn {t u : TS} {D : Ends} {σ : L2.St} {H : Hp} (P : L2.St → Hp → Prop) (k : ∀ σ H, P σ H → u D σ H) (h : ∀ N : L2.St → Hp → Prop, (∀ σ H, P σ H → N σ H) → t { D with nx := N } σ H) : tSeq t u D σ H := h (u D) k
theorem mni (i j : Int) : (if j < i then j else i) = min i j := by
  split <;> omega
/-! ### comprehensions that make nothing but their list -/
theorem lc_leaf {H1 : Hp} {D : Addr} {acc : List V} {y : V} {N : Hp → Prop} {i : Nat} (hl : acc.length ≤ i) (hi : i < 100000) (hN : N (upd H1 D (.lst (acc ++ [y])))) :
    ∃ acc', upd H1 D (.lst acc) D = some (.lst acc') ∧ acc'.length < sizeLine ∧ N (upd (upd H1 D (.lst acc)) D (.lst (acc' ++ [y]))) :=
  ⟨acc, upd_same, by rw [sizeLine_eq]; omega, by rw [upd_upd]; exact hN⟩
theorem lc_flt {K : PySem.W.Frag} {a : Addr} {xs : List V} {g : TG} {tt : TT} {te : TE} {vs : List Nat} {σ : L2.St} {H1 : Hp} {Qf : Addr → Hp → Prop} (f : V → Option V) (hx : SqL K H1 a xs) (hz : xs.length < 100000)
    (hs : ∀ (D : Addr) i x (N : Hp → Prop) acc, Fr H1 D → i < 100000 → xs[i]? = some x → acc.length ≤ i → (∀ y, f x = some y → N (upd H1 D (.lst (acc ++ [y])))) → (f x = none → N (upd H1 D (.lst acc))) →
      g x (wipe σ vs) (upd H1 D (.lst acc)) fun σ2 H2 => wipe σ2 vs = wipe σ vs ∧ tt σ2 H2 fun b H3 =>
        if b = true then te σ2 H3 fun y H4 => ∃ acc, H4 D = some (.lst acc) ∧ acc.length < sizeLine ∧ N (upd H4 D (.lst (acc ++ [y]))) else N H3)
    (hd : ∀ D, Fr H1 D → Qf D (upd H1 D (.lst (xs.filterMap f)))) :
    ∀ D, Fr H1 D → ∃ W : Nat → Nat → Hp → Prop, (∃ m, W 0 m (upd H1 D (.lst []))) ∧ ∀ i m H, W i m H →
      ((Itl K a).stop i H ∧ Qf D H) ∨ ((Itl K a).go i H ∧ ∃ Nx : Hp → Prop, (∀ H', Nx H' → ∃ m', m' < m ∧ W (i + 1) m' H') ∧ ∀ x H', (Itl K a).yld i H x H' → g x (wipe σ vs) H' fun σ2 H2 => wipe σ2 vs = wipe σ vs ∧ tt σ2 H2 fun b H3 =>
        if b = true then te σ2 H3 fun y H4 => ∃ acc, H4 D = some (.lst acc) ∧ acc.length < sizeLine ∧ Nx (upd H4 D (.lst (acc ++ [y]))) else Nx H3) := fun D hD => by
  refine lc_list (K := K) (a := a) (xs := xs) (fun i H => H = upd H1 D (.lst ((xs.take i).filterMap f))) rfl (fun i H _ e => by rw [e]; exact (same_new hD).seq hx) (fun i x H hi e => ?_) fun H e => by rw [e, List.take_length]; exact hd D hD
  subst e
  have hi' := (List.getElem?_eq_some_iff.mp hi).1
  refine hs D i x _ _ hD (by omega) hi (Nat.le_trans (List.length_filterMap_le ..) (by rw [List.length_take]; omega)) (fun y hy => ?_) fun hy => ?_
  · rw [List.take_add_one, hi, List.filterMap_append]
    simp [hy]
  · rw [List.take_add_one, hi, List.filterMap_append]
    simp [hy]
/-! ### comprehensions whose parts may make new things -/
theorem lc_w {J : It} {n : Nat} {G : Hp → Prop} {Y : Nat → Hp → V → Hp → Prop} (w : Walk J n G Y) {g : TG} {tt : TT} {te : TE} {vs : List Nat} {σ : L2.St} {H1 : Hp} {Qf : Addr → Hp → Prop} (f : Nat → Option V) (hn : n < 100000) (hG : ∀ H, Same H1 H → G H)
    (hs : ∀ (D : Addr) i x H H' (N : Hp → Prop), Fr H1 D → i < n → Same H1 H → Y i H x H' → (∀ y H4, f i = some y → Same H H4 → ∃ acc, H4 D = some (.lst acc) ∧ acc.length < sizeLine ∧ N (upd H4 D (.lst (acc ++ [y])))) → (∀ H4, f i = none → Same H H4 → N H4) →
      g x (wipe σ vs) H' fun σ2 H2 => wipe σ2 vs = wipe σ vs ∧ tt σ2 H2 fun b H3 =>
        if b = true then te σ2 H3 fun y H4 => ∃ acc, H4 D = some (.lst acc) ∧ acc.length < sizeLine ∧ N (upd H4 D (.lst (acc ++ [y]))) else N H3)
    (hd : ∀ D H', Fr H1 D → Same H1 H' → H' D = some (.lst ((List.range n).filterMap f)) → Qf D H') :
    ∀ D, Fr H1 D → ∃ W : Nat → Nat → Hp → Prop, (∃ m, W 0 m (upd H1 D (.lst []))) ∧ ∀ i m H, W i m H →
      (J.stop i H ∧ Qf D H) ∨ (J.go i H ∧ ∃ Nx : Hp → Prop, (∀ H', Nx H' → ∃ m', m' < m ∧ W (i + 1) m' H') ∧ ∀ x H', J.yld i H x H' → g x (wipe σ vs) H' fun σ2 H2 => wipe σ2 vs = wipe σ vs ∧ tt σ2 H2 fun b H3 =>
        if b = true then te σ2 H3 fun y H4 => ∃ acc, H4 D = some (.lst acc) ∧ acc.length < sizeLine ∧ Nx (upd H4 D (.lst (acc ++ [y]))) else Nx H3) := fun D hD => by
  refine lc_it w (fun i H => Same H1 H ∧ H D = some (.lst ((List.range i).filterMap f))) ⟨same_new hD, upd_same⟩ (fun i H _ h => hG H h.1) (fun i x H H' hi h y => ?_) fun H h => hd D H hD h.1 h.2
  have hlen : ((List.range i).filterMap f).length ≤ i := Nat.le_trans (List.length_filterMap_le ..) (by rw [List.length_range]; omega)
  refine hs D i x H H' _ hD hi h.1 y (fun y H4 hy s => ⟨_, s _ _ h.2, by rw [sizeLine_eq]; omega, sm_own hD (h.1.trans s), ?_⟩) fun H4 hy s => ⟨h.1.trans s, ?_⟩
  · rw [upd_same, List.range_succ, List.filterMap_append]
    simp [hy]
  · rw [s _ _ h.2, List.range_succ, List.filterMap_append]
    simp [hy]
theorem range_flt' {α β : Type} (xs : List α) (g : α → Option β) (n : Nat) : (List.range n).filterMap (fun i => (xs[i]?).bind g) = (xs.take n).filterMap g := by
  induction n with
  | zero => simp
  | succ n ih =>
    rw [List.range_succ, List.filterMap_append, ih, List.take_add_one, List.filterMap_append]
    congr 1
    cases e : xs[n]? with
    | none => simp [e]
    | some x => cases e2 : g x <;> simp [e, e2]
theorem range_flt {α β : Type} (xs : List α) (g : α → Option β) : (List.range xs.length).filterMap (fun i => (xs[i]?).bind g) = xs.filterMap g := by
  rw [range_flt', List.take_length]
theorem prs_get {G : Hp} {xs : List V} {ts : List Pr} (h : PrsAt G xs ts) {v : V} (hv : v ∈ xs) : ∃ r ∈ ts, PrAt G v r := by
  obtain ⟨i, hi, e⟩ := List.mem_iff_getElem.mp hv
  obtain ⟨b, hb, q⟩ := Paired.getL h (List.getElem?_eq_some_iff.mpr ⟨hi, e⟩)
  exact ⟨b, List.mem_of_getElem? hb, q⟩
/-- comprehensions whose items are new tuples, numbers, texts: R stays while the tuples stay -/
theorem lc_r {J : It} {n : Nat} {G : Hp → Prop} {Y : Nat → Hp → V → Hp → Prop} (w : Walk J n G Y) {g : TG} {tt : TT} {te : TE} {vs : List Nat} {σ : L2.St} {H1 : Hp} {Qf : Addr → Hp → Prop} {β : Type} (R : Hp → V → β → Prop) (hR : ∀ G G' v b, Tk G G' → R G v b → R G' v b) (f : Nat → Option β) (hn : n < 100000) (hG : ∀ H, Same H1 H → G H)
    (hs : ∀ (D : Addr) i x H H' (N : Hp → Prop), Fr H1 D → i < n → Same H1 H → Y i H x H' → (∀ y b H4, f i = some b → Same H H4 → R H4 y b → ∃ acc, H4 D = some (.lst acc) ∧ acc.length < sizeLine ∧ N (upd H4 D (.lst (acc ++ [y])))) → (∀ H4, f i = none → Same H H4 → N H4) →
      g x (wipe σ vs) H' fun σ2 H2 => wipe σ2 vs = wipe σ vs ∧ tt σ2 H2 fun b H3 =>
        if b = true then te σ2 H3 fun y H4 => ∃ acc, H4 D = some (.lst acc) ∧ acc.length < sizeLine ∧ N (upd H4 D (.lst (acc ++ [y]))) else N H3)
    (hd : ∀ D H' ys, Fr H1 D → Same H1 H' → H' D = some (.lst ys) → Paired (R H') ys ((List.range n).filterMap f) → Qf D H') :
    ∀ D, Fr H1 D → ∃ W : Nat → Nat → Hp → Prop, (∃ m, W 0 m (upd H1 D (.lst []))) ∧ ∀ i m H, W i m H →
      (J.stop i H ∧ Qf D H) ∨ (J.go i H ∧ ∃ Nx : Hp → Prop, (∀ H', Nx H' → ∃ m', m' < m ∧ W (i + 1) m' H') ∧ ∀ x H', J.yld i H x H' → g x (wipe σ vs) H' fun σ2 H2 => wipe σ2 vs = wipe σ vs ∧ tt σ2 H2 fun b H3 =>
        if b = true then te σ2 H3 fun y H4 => ∃ acc, H4 D = some (.lst acc) ∧ acc.length < sizeLine ∧ Nx (upd H4 D (.lst (acc ++ [y]))) else Nx H3) := fun D hD => by
  refine lc_it w (fun i H => Same H1 H ∧ ∃ acc, H D = some (.lst acc) ∧ Paired (R H) acc ((List.range i).filterMap f)) ⟨same_new hD, [], upd_same, .nil⟩ (fun i H _ h => hG H h.1) (fun i x H H' hi ⟨sm, acc, ha, hp⟩ y => ?_) fun H ⟨sm, acc, ha, hp⟩ => hd D H acc hD sm ha hp
  have hlen : acc.length ≤ i := by
    rw [Paired.length hp]
    exact Nat.le_trans (List.length_filterMap_le ..) (by rw [List.length_range]; omega)
  refine hs D i x H H' _ hD hi sm y (fun y b H4 hb s r => ⟨acc, s _ _ ha, by rw [sizeLine_eq]; omega, sm_own hD (sm.trans s), acc ++ [y], upd_same, ?_⟩) fun H4 hb s => ⟨sm.trans s, acc, s _ _ ha, ?_⟩
  · have tk : Tk H4 (upd H4 D (.lst (acc ++ [y]))) := tk_put (s _ _ ha)
    rw [List.range_succ, List.filterMap_append]
    refine Paired.app (Paired.mapP hp fun _ _ q => hR _ _ _ _ ((Same.tk s).trans tk) q) ?_
    simp only [List.filterMap_cons, hb, List.filterMap_nil]
    exact .cons (hR _ _ _ _ tk r) .nil
  · rw [List.range_succ, List.filterMap_append]
    simp only [List.filterMap_cons, hb, List.filterMap_nil, List.append_nil]
    exact Paired.mapP hp fun _ _ q => hR _ _ _ _ (Same.tk s) q
theorem Paired.take {α β : Type} {F : α → β → Prop} : ∀ (n : Nat) {as : List α} {bs : List β}, Paired F as bs → Paired F (as.take n) (bs.take n)
  | 0, _, _, _ => .nil
  | n + 1, _, _, .nil => .nil
  | n + 1, _, _, .cons r t => .cons r (Paired.take n t)
theorem Paired.drop {α β : Type} {F : α → β → Prop} : ∀ (n : Nat) {as : List α} {bs : List β}, Paired F as bs → Paired F (as.drop n) (bs.drop n)
  | 0, _, _, h => h
  | n + 1, _, _, .nil => .nil
  | n + 1, _, _, .cons r t => Paired.drop n t
/-! Y1 (second family): a row of draws, its draws. -/
open PySem PySem.Spec PyProof.Rows L2
def sp_Ltake (K : PySem.W.Frag) : Sp := Sp2 fun x y H Q E => ∃ (t b s : Addr) (m : Int), x = .ref t ∧ y = .int m ∧ Tape H t b s ∧ 0 < m ∧ m.natAbs.log2 < 9000 ∧
  ∀ (v : Int) (H' : Hp), 0 ≤ v → v < m → Tape H' t b s → Kp [t, b] H H' → Q (.int v) H'
theorem g_take {K : PySem.W.Frag} {t b s : Addr} {m : Int} {H : Hp} {Q : VK} {E : XK} (T : Tape H t b s) (h0 : 0 < m) (h9 : m < 2 ^ 250) (q : ∀ (v : Int) (H' : Hp), 0 ≤ v → v < m → Tape H' t b s → Kp [t, b] H H' → Q (.int v) H') : sp_Ltake K ([.ref t, .int m] ++ []) H Q E :=
  ⟨_, _, rfl, t, b, s, m, rfl, rfl, T, h0, log9 h0 h9, q⟩
def sp_Lbegin (K : PySem.W.Frag) : Sp := Sp1 fun x H Q E => ∃ c : Int, x = .int c ∧ ∀ (t : Addr) (H' : Hp), Same H H' → Fr H t → Tape H' t t t → Q (.ref t) H'
theorem g_begin {K : PySem.W.Frag} {c : Int} {H : Hp} {Q : VK} {E : XK} (q : ∀ (t : Addr) (H' : Hp), Same H H' → Fr H t → Tape H' t t t → Q (.ref t) H') : sp_Lbegin K ([.int c] ++ []) H Q E := ⟨_, rfl, c, rfl, q⟩
def sp_Lcell_at (K : PySem.W.Frag) : Sp := Sp2 fun x y H Q E => ∃ (a : Addr) (ns : List Int) (i : Nat), x = .ref a ∧ y = .int (i : Nat) ∧ SqL K H a (ns.map V.int) ∧ ∀ c : Int, Q (.int c) H
/-! steps: a heap's facts (at), a list's or tuple's (sq), side questions (sd), one step (s1), many (ss) -/
local macro_rules | `(tactic| walk_at "tp") => `(tactic| first
  | with_reducible assumption
  | ((with_reducible refine' $(Lean.mkIdent `Y.tape_new) ?n0 ?n1); (case n0 => with_reducible assumption); (case n1 => walk_at "tp"))
  | ((with_reducible refine' $(Lean.mkIdent `Y.tape_same) ?n0 ?n1); (case n0 => with_reducible assumption); (case n1 => walk_at "tp"))
  | ((with_reducible refine' $(Lean.mkIdent `Y.tape_own) ?n0 ?n1 ?n2); (case n0 => with_reducible assumption); (case n1 => walk_at "tp"); (case n2 => walk_at "tp"))
  | fail)
local macro_rules | `(tactic| walk_at "ni") => `(tactic| first
  | with_reducible assumption
  | ((with_reducible refine' $(Lean.mkIdent `Y.ni_tape) ?n0 ?n1); (case n0 => with_reducible assumption); (case n1 => walk_at "tp"))
  | fail)
local macro_rules | `(tactic| walk_at "at0") => `(tactic| first
  | with_reducible assumption
  | with_reducible exact upd_same
  | ((with_reducible refine' $(Lean.mkIdent `Y.at_new) ?n0 ?n1); (case n0 => with_reducible assumption); (case n1 => walk_at "at0"))
  | ((with_reducible refine' $(Lean.mkIdent `Y.get_kp) ?n0 ?n1 ?n2); (case n0 => with_reducible assumption); (case n1 => walk_at "at0"); (case n2 => walk_at "ni"))
  | fail)
local macro_rules | `(tactic| walk_at "ne") => `(tactic| first
  | assumption
  | exact Ne.symm (by assumption)
  | ((with_reducible refine' $(Lean.mkIdent `Y.ne_new') ?n0 ?n1); (case n0 => with_reducible assumption); (case n1 => walk_at "at"))
  | fail)
local macro_rules | `(tactic| walk_at "sm") => `(tactic| first
  | with_reducible assumption
  | with_reducible exact Same.refl _
  | ((with_reducible refine' $(Lean.mkIdent `Y.sm_new) ?n0 ?n1); (case n0 => with_reducible assumption); (case n1 => walk_at "sm"))
  | ((with_reducible refine' $(Lean.mkIdent `Y.sm_own) ?n0 ?n1); (case n0 => with_reducible assumption); (case n1 => walk_at "sm"))
  | fail)
local macro_rules | `(tactic| walk_at "kp") => `(tactic| first
  | with_reducible assumption
  | with_reducible exact $(Lean.mkIdent `Y.Kp.refl) _ _
  | ((with_reducible refine' $(Lean.mkIdent `Y.kp_own) ?n0 ?n1); (case n0 => with_reducible assumption); (case n1 => walk_at "kp"))
  | ((with_reducible refine' $(Lean.mkIdent `Y.kp_new) ?n0 ?n1); (case n0 => with_reducible assumption); (case n1 => walk_at "kp"))
  | ((with_reducible refine' $(Lean.mkIdent `Y.kp_tr) ?n0 ?n1); (case n0 => with_reducible assumption); (case n1 => walk_at "kp"))
  | fail)
local macro_rules | `(tactic| walk_at "fr") => `(tactic| first
  | with_reducible assumption
  | ((with_reducible refine' $(Lean.mkIdent `Y.fr_new) ?n0); (case n0 => with_reducible assumption))
  | ((with_reducible refine' $(Lean.mkIdent `Y.fr_of) ?n0 ?n1); (case n0 => with_reducible assumption); (case n1 => walk_at "sm"))
  | fail)
local macro_rules | `(tactic| walk_at "at") => `(tactic| first
  | with_reducible assumption
  | with_reducible exact upd_same
  | ((with_reducible refine' $(Lean.mkIdent `Y.at_new) ?n0 ?n1); (case n0 => with_reducible assumption); (case n1 => walk_at "at"))
  | ((with_reducible refine' $(Lean.mkIdent `Y.at_ne) ?n0 ?n1); (case n0 => walk_at "ne"); (case n1 => walk_at "at"))
  | ((with_reducible refine' $(Lean.mkIdent `Y.get_kp) ?n0 ?n1 ?n2); (case n0 => with_reducible assumption); (case n1 => walk_at "at"); (case n2 => walk_at "ni"))
  | fail)
local macro_rules | `(tactic| walk_at "tk") => `(tactic| first
  | with_reducible assumption
  | with_reducible exact $(Lean.mkIdent `Y.Tk.refl) _
  | fail)
local macro_rules | `(tactic| walk_at "pr") => `(tactic| first
  | with_reducible assumption
  | ((with_reducible refine' $(Lean.mkIdent `Y.pr_new) ?n0 ?n1); (case n0 => with_reducible assumption); (case n1 => walk_at "pr"))
  | ((with_reducible refine' $(Lean.mkIdent `Y.pr_same) ?n0 ?n1); (case n0 => with_reducible assumption); (case n1 => walk_at "pr"))
  | ((with_reducible refine' $(Lean.mkIdent `Y.pr_kp) ?n0 ?n2 ?n1); (case n0 => with_reducible assumption); (case n2 => walk_at "tp"); (case n1 => walk_at "pr"))
  | fail)
local macro_rules | `(tactic| walk_at "prs") => `(tactic| first
  | with_reducible assumption
  | with_reducible exact $(Lean.mkIdent `Y.prs_nil)
  | ((with_reducible refine' $(Lean.mkIdent `Y.prs_app) ?n0 ?n1); (case n0 => walk_at "prs"); (case n1 => walk_at "prs"))
  | ((with_reducible refine' $(Lean.mkIdent `Y.prs_new) ?n0 ?n1); (case n0 => with_reducible assumption); (case n1 => walk_at "prs"))
  | ((with_reducible refine' $(Lean.mkIdent `Y.prs_put) ?n0 ?n1); (case n0 => walk_at "at"); (case n1 => walk_at "prs"))
  | ((with_reducible refine' $(Lean.mkIdent `Y.prs_same) ?n0 ?n1); (case n0 => with_reducible assumption); (case n1 => walk_at "prs"))
  | ((with_reducible refine' $(Lean.mkIdent `Y.prs_kp) ?n0 ?n2 ?n1); (case n0 => with_reducible assumption); (case n2 => walk_at "tp"); (case n1 => walk_at "prs"))
  | fail)
local macro_rules | `(tactic| walk_at "ad") => `(tactic| first
  | with_reducible assumption
  | with_reducible exact $(Lean.mkIdent `Y.At.int) _
  | with_reducible exact $(Lean.mkIdent `Y.At.str) _
  | with_reducible exact $(Lean.mkIdent `Y.At.bl) _
  | with_reducible exact $(Lean.mkIdent `Y.At.non)
  | ((with_reducible refine' $(Lean.mkIdent `Y.Td.at0) ?n0); (case n0 => walk_at "td"))
  | ((with_reducible refine' $(Lean.mkIdent `Y.At.same) ?n0 ?n1); (case n0 => with_reducible assumption); (case n1 => walk_at "ad"))
  | fail)
local macro_rules | `(tactic| walk_at "ads") => `(tactic| first
  | with_reducible assumption
  | with_reducible exact $(Lean.mkIdent `Y.Ats.nil)
  | ((with_reducible refine' $(Lean.mkIdent `Y.Ats.cons) ?n0 ?n1); (case n0 => walk_at "ad"); (case n1 => walk_at "ads"))
  | fail)
local macro_rules | `(tactic| walk_at "td") => `(tactic| first
  | with_reducible assumption
  | with_reducible exact $(Lean.mkIdent `Y.Td.int) _
  | with_reducible exact $(Lean.mkIdent `Y.Td.str) _
  | with_reducible exact $(Lean.mkIdent `Y.Td.bl) _
  | with_reducible exact $(Lean.mkIdent `Y.Td.non)
  | fail)
local macro_rules | `(tactic| walk_at "tds") => `(tactic| first
  | with_reducible assumption
  | with_reducible exact $(Lean.mkIdent `Y.Tds.nil)
  | fail)
local macro_rules | `(tactic| walk_at "ins") => `(tactic| first
  | with_reducible assumption
  | fail)
local macro_rules | `(tactic| walk_at "bk") => `(tactic| first
  | with_reducible assumption
  | ((with_reducible refine' $(Lean.mkIdent `Y.bk_kp) ?n0 ?n2 ?n3 ?n1); (case n0 => with_reducible assumption); (case n2 => walk_at "tp"); (case n1 => walk_at "bk"); (case n3 => with_reducible assumption))
  | fail)
local macro_rules | `(tactic| walk_at "wd") => `(tactic| first
  | fail)
local macro_rules | `(tactic| walk_at "rt") => `(tactic| first
  | with_reducible assumption
  | fail)
local macro_rules | `(tactic| walk_at "ru") => `(tactic| first
  | with_reducible assumption
  | fail)
local macro_rules | `(tactic| walk_at "gd") => `(tactic| first
  | with_reducible assumption
  | fail)
local macro_rules | `(tactic| walk_at "up") => `(tactic| first
  | with_reducible assumption
  | ((with_reducible refine' $(Lean.mkIdent `Y.Can.up) ?n0); (case n0 => with_reducible assumption))
  | fail)
local macro_rules | `(tactic| walk_at "sq") => `(tactic| first
  | assumption
  | (refine' SqL.of ?n0; (case n0 => walk_at "at"))
  | (refine' SqT.of ?n0; (case n0 => walk_at "at"))
  | ((with_reducible refine' $(Lean.mkIdent `Y.sql_new) ?n0 ?n1); (case n0 => with_reducible assumption); (case n1 => walk_at "sq"))
  | ((with_reducible refine' $(Lean.mkIdent `Y.sq_or) ?n0); (case n0 => walk_at "at"))
  | ((with_reducible refine' Or.inl ?n0); (case n0 => walk_at "sq"))
  | ((with_reducible refine' Or.inr ?n0); (case n0 => walk_at "sq"))
  | fail)
local macro_rules | `(tactic| walk_at "dp") => `(tactic| first
  | assumption
  | exact Dp.int _
  | exact Dp.str _
  | exact Dp.bl _
  | exact Dp.non
  | (refine' Dp.tup ?s0 ?a0; (case s0 => walk_at "sq"); (case a0 => walk_at "dpa"))
  | (refine' Dp.lst ?s0 ?a0; (case s0 => walk_at "sq"); (case a0 => walk_at "dpa"))
  | fail)
local macro_rules | `(tactic| walk_at "dpa") => `(tactic| first
  | exact DpAll.nil
  | exact $(Lean.mkIdent `Y.dp_ints) _
  | (refine' DpAll.cons ?a0 ?b0; (case a0 => walk_at "dp"); (case b0 => walk_at "dpa"))
  | fail)
local macro_rules | `(tactic| walk_at "sh") => `(tactic| first
  | assumption
  | exact ⟨by simp [PyData.canLay0, PyData.canLayAll0], by simp [PyData.depth, PyData.depthAll]⟩
  | fail)
local macro_rules | `(tactic| walk_at "sd") => `(tactic| ((try dsimp only); first
  | omega
  | assumption
  | exact rfl
  | decide
  | exact Or.inl ⟨by omega, by omega⟩
  | exact Or.inr ⟨by omega, by omega⟩
  | exact ⟨by first | assumption | omega | decide, by first | assumption | omega | decide⟩
  | exact ⟨by decide, by decide, by decide⟩
  | exact ⟨by omega, $(Lean.mkIdent `Y.log9) (by omega) (by omega)⟩
  | (simp only [List.length_map, List.length_append, List.length_cons, List.length_nil, List.length_singleton, List.length_reverse, List.length_take, List.length_drop, sizeLine_eq]; omega)
  | fail))
local macro_rules | `(tactic| walk_at "sd3") => `(tactic| first
  | assumption
  | exact ⟨by omega, by omega, by omega⟩)
local macro_rules | `(tactic| walk_at "sd4") => `(tactic| first
  | assumption
  | exact ⟨by omega, by omega, by omega, by omega⟩)
local macro_rules | `(tactic| walk_at "rf") => `(tactic| exact rfl)
local macro_rules | `(tactic| walk_at "ai") => `(tactic| first
  | assumption
  | ((with_reducible refine' $(Lean.mkIdent `Y.at_k0) ?r); (case r => exact rfl))
  | ((with_reducible refine' $(Lean.mkIdent `Y.at_k1) ?r); (case r => exact rfl))
  | ((with_reducible refine' $(Lean.mkIdent `Y.ix_k0) ?r); (case r => walk_at "sd"))
  | ((with_reducible refine' $(Lean.mkIdent `Y.ix_k1) ?r); (case r => walk_at "sd"))
  | fail)
local macro_rules | `(tactic| walk_at "isi") => `(tactic| first
  | (with_reducible refine $(Lean.mkIdent `Y.g_isi_int_int) ?_)
  | (with_reducible refine $(Lean.mkIdent `Y.g_isi_int_bool) ?_)
  | ((with_reducible refine' $(Lean.mkIdent `Y.g_isi_lst_list) ?h ?_); (case h => walk_at "at"))
  | fail)
local macro_rules | `(tactic| walk_at "xa") => `(tactic| first
  | with_reducible assumption
  | fail)
local macro_rules | `(tactic| walk_at "dc") => `(tactic| first
  | with_reducible assumption
  | fail)
local macro_rules | `(tactic| walk_at "s1") => `(tactic| first
  | ((with_reducible refine' $(Lean.mkIdent `Y.g_var) ?h ?_); (case h => exact rfl))
  | (with_reducible refine $(Lean.mkIdent `Y.g_c) ?_)
  | (with_reducible refine $(Lean.mkIdent `Y.g_op) ?_)
  | (with_reducible refine $(Lean.mkIdent `Y.g_cons) ?_)
  | (with_reducible refine $(Lean.mkIdent `Y.g_nil) ?_)
  | (with_reducible refine $(Lean.mkIdent `Y.g_test) ?_)
  | (with_reducible refine $(Lean.mkIdent `Y.g_cb) ?_)
  | (with_reducible refine $(Lean.mkIdent `Y.g_seqA) ?_)
  | (with_reducible refine $(Lean.mkIdent `Y.g_seqR) ?_)
  | (with_reducible refine $(Lean.mkIdent `Y.g_seqD) ?_)
  | (with_reducible refine $(Lean.mkIdent `Y.g_seqF) ?_)
  | (with_reducible refine $(Lean.mkIdent `Y.g_seqW) ?_)
  | (with_reducible refine $(Lean.mkIdent `Y.g_asg) ?_)
  | (with_reducible refine $(Lean.mkIdent `Y.g_name) ?_)
  | (with_reducible refine $(Lean.mkIdent `Y.g_ifS) ?_)
  | (with_reducible refine $(Lean.mkIdent `Y.ite_nt) ?_)
  | (with_reducible refine iteF ?_)
  | (with_reducible refine iteT ?_)
  | ((with_reducible refine $(Lean.mkIdent `Y.g_wipe) ?h ?_); (case h => exact rfl))
  | ((with_reducible refine' $(Lean.mkIdent `Y.g_take) ?T ?c0 ?c9 fun v H' h0 h1 T' k' => ?_); (case T => walk_at "tp"); (case c0 => walk_at "sd"); (case c9 => walk_at "sd"))
  | ((with_reducible refine $(Lean.mkIdent `Y.g_sz) ?z fun p hp => ?_); (case z => walk_at "sd"))
  | (with_reducible refine $(Lean.mkIdent `Y.g_pow6) ?_)
  | (with_reducible refine $(Lean.mkIdent `Y.g_pow18) ?_)
  | ((with_reducible refine $(Lean.mkIdent `Y.g_rI) ?c ?_); (case c => walk_at "sd"))
  | ((with_reducible refine $(Lean.mkIdent `Y.g_eq) ?c ?_); (case c => walk_at "rf"))
  | ((with_reducible refine $(Lean.mkIdent `Y.g_ne) ?c ?_); (case c => walk_at "rf"))
  | ((with_reducible refine' $(Lean.mkIdent `Y.g_ixL) ?h ?a ?_); (case h => walk_at "sq"); (case a => walk_at "ai"))
  | ((with_reducible refine' $(Lean.mkIdent `Y.g_pk2) ?h ?gxs ?a ?b fun v hv => ?_); (case h => walk_at "at"); (case gxs => with_reducible rfl); (case a => first | with_reducible assumption | omega); (case b => first | with_reducible assumption | omega))
  | ((with_reducible refine' $(Lean.mkIdent `Y.g_pk3) ?h ?gxs ?a ?b fun v hv => ?_); (case h => walk_at "at"); (case gxs => with_reducible rfl); (case a => first | with_reducible assumption | omega); (case b => first | with_reducible assumption | omega))
  | ((with_reducible refine' $(Lean.mkIdent `Y.g_pk5) ?h ?gxs ?a ?b fun v hv => ?_); (case h => walk_at "at"); (case gxs => with_reducible rfl); (case a => first | with_reducible assumption | omega); (case b => first | with_reducible assumption | omega))
  | ((with_reducible refine' $(Lean.mkIdent `Y.g_pickL) ?h ?a ?b ?e fun v hv => ?_); (case h => walk_at "at"); (case a => first | with_reducible assumption | omega); (case b => first | with_reducible assumption | omega); (case e => exact rfl))
  | ((with_reducible refine' $(Lean.mkIdent `Y.g_ixT) ?h ?a ?_); (case h => walk_at "sq"); (case a => walk_at "ai"))
  | ((with_reducible refine' $(Lean.mkIdent `Y.g_setL) ?h ?a ?_); (case h => walk_at "at"); (case a => walk_at "ai"))
  | ((with_reducible refine' $(Lean.mkIdent `Y.g_len) ?h ?_); (case h => walk_at "sq"))
  | (with_reducible refine $(Lean.mkIdent `Y.g_call) ?_)
  | (with_reducible refine $(Lean.mkIdent `Y.g_tB) ?_)
  | (with_reducible refine $(Lean.mkIdent `Y.g_and) ?_)
  | (with_reducible refine $(Lean.mkIdent `Y.g_or) ?_)
  | (with_reducible refine $(Lean.mkIdent `Y.g_not) ?_)
  | (with_reducible refine $(Lean.mkIdent `Y.g_tTup) ?_)
  | (with_reducible refine $(Lean.mkIdent `Y.g_tLst) ?_)
  | (with_reducible refine $(Lean.mkIdent `Y.g_sl) ?_)
  | (with_reducible refine $(Lean.mkIdent `Y.g_pt) ?_)
  | (with_reducible refine $(Lean.mkIdent `Y.g_np) ?_)
  | (with_reducible refine $(Lean.mkIdent `Y.g_bm) ?_)
  | (with_reducible refine $(Lean.mkIdent `Y.g_ret) ?_)
  | (with_reducible refine $(Lean.mkIdent `Y.g_drop) ?_)
  | (with_reducible refine $(Lean.mkIdent `Y.g_next) ?_)
  | (with_reducible refine $(Lean.mkIdent `Y.g_sub) ?_)
  | (with_reducible refine $(Lean.mkIdent `Y.g_gcons) ?_)
  | (with_reducible refine $(Lean.mkIdent `Y.g_gnil) ?_)
  | (with_reducible refine $(Lean.mkIdent `Y.g_yes) ?_)
  | (with_reducible refine $(Lean.mkIdent `Y.g_lstRg) ?_)
  | (with_reducible refine $(Lean.mkIdent `Y.g_rg1) ?_)
  | (with_reducible refine $(Lean.mkIdent `Y.g_exI) ?_)
  | (with_reducible refine $(Lean.mkIdent `Y.g_rng1) ?_)
  | (with_reducible refine $(Lean.mkIdent `Y.g_rng2) ?_)
  | (with_reducible refine $(Lean.mkIdent `Y.g_iList) ?_)
  | (with_reducible refine $(Lean.mkIdent `Y.g_for) ?_)
  | (with_reducible refine $(Lean.mkIdent `Y.g_lc) ?_)
  | (with_reducible refine $(Lean.mkIdent `Y.g_rI0) ?_)
  | (with_reducible refine $(Lean.mkIdent `Y.g_min2) ?_)
  | (with_reducible refine $(Lean.mkIdent `Y.g_bl) ?_)
  | ((with_reducible refine' $(Lean.mkIdent `Y.g_slTo) ?n ?h fun p hp => ?_); (case n => walk_at "sd"); (case h => walk_at "sq"))
  | ((with_reducible refine' $(Lean.mkIdent `Y.g_slL) ?h fun p hp => ?_); (case h => walk_at "sq"))
  | ((with_reducible refine' $(Lean.mkIdent `Y.g_extend) ?h ?h2 ?z ?_); (case h => walk_at "at"); (case h2 => walk_at "at"); (case z => walk_at "sd"))
  | ((with_reducible refine' $(Lean.mkIdent `Y.g_cat) ?h ?h2 ?z fun l hl => ?_); (case h => walk_at "at"); (case h2 => walk_at "at"); (case z => walk_at "sd"))
  | (with_reducible refine $(Lean.mkIdent `Y.g_iZip) ?_)
  | ((with_reducible refine' $(Lean.mkIdent `Y.g_iZipb) ?h ?h2 ?_); (case h => walk_at "sq"); (case h2 => walk_at "sq"))
  | ((with_reducible refine' $(Lean.mkIdent `Y.g_listOf) ?h fun p hp => ?_); (case h => walk_at "sq"))
  | ((with_reducible refine' $(Lean.mkIdent `Y.g_append) ?h ?z ?_); (case h => walk_at "at"); (case z => walk_at "sd"))
  | ((with_reducible refine' $(Lean.mkIdent `Y.g_gtup) ?h ?l ?_); (case h => walk_at "sq"); (case l => walk_at "rf"))
  | ((with_reducible refine' $(Lean.mkIdent `Y.g_tyL) ?h ?_); (case h => walk_at "sq"))
  | ((with_reducible refine $(Lean.mkIdent `Y.g_rng1b) ?a ?b ?_); (case a => walk_at "sd"); (case b => walk_at "sd"))
  | ((with_reducible refine $(Lean.mkIdent `Y.g_rng2b) ?a ?_); (case a => walk_at "sd"))
  | ((with_reducible refine' $(Lean.mkIdent `Y.g_iListb) ?h ?_); (case h => walk_at "sq"))
  | (with_reducible refine $(Lean.mkIdent `Y.g_begin) fun t H' hs hf T => ?_)
  | ((with_reducible refine' $(Lean.mkIdent `Y.g_neD_prs) ?h ?h2 ?t ?u ?_); (case h => walk_at "sq"); (case h2 => walk_at "sq"); (case t => walk_at "prs"); (case u => walk_at "prs"))
  | walk_at "isi"
  | fail)
local macro_rules | `(tactic| walk_at "ss") => `(tactic| repeat walk_at "s1")
local macro_rules | `(tactic| walk_at "st") => `(tactic| repeat (first | walk_at "s1" | (with_reducible refine $(Lean.mkIdent `Y.g_seq) ?_)))
def t_Ltake (K : PySem.W.Frag) : TS :=
  (tSeq (tIfS (tTest (tOp rGt (tOp (rIxL K) (tVar 0) (tC (.int 0))) (tC (.int 0))))
  (tSeq (tAsg (tOp rMod (tOp (rIxL K) (tVar 0) (tC (.int 0))) (tVar 1)) (gName 2))
  (tSeq (tAsg (tOp rDivW (tOp (rIxL K) (tVar 0) (tC (.int 0))) (tVar 1)) (gSub (tVar 0) (tC (.int 0)) rSetL))
  (tRet (tVar 2))))
  tNext)
  (tSeq (tAsg (tOp rMod (tOp rAdd (tOp rMul (tOp (rIxL K) (tVar 0) (tC (.int 1))) (tC (.int 48271))) (tC (.int 11))) (tC (.int 2147483647))) (gSub (tVar 0) (tC (.int 1)) rSetL))
  (tSeq (tAsg (tOp rMod (tOp rAdd (tOp rAdd (tOp rMul (tOp (rIxL K) (tVar 0) (tC (.int 1))) (tOp (rIxL K) (tVar 0) (tC (.int 1)))) (tOp rMul (tC (.int 69621)) (tOp (rIxL K) (tVar 0) (tC (.int 1))))) (tC (.int 7))) (tC (.int 2147483629))) (gName 3))
  (tRet (tOp rMod (tOp rDivW (tVar 3) (tC (.int 64))) (tVar 1))))))
theorem pure_Ltake {K : PySem.W.Frag} {x y : V} {H : Hp} {Q : VK} {E : XK} (h : sp_Ltake K [x, y] H Q E) : t_Ltake K { nx := fun _ H' => Q .non H', rt := Q } [some x, some y, none, none] H := by
  obtain ⟨x, y, e, t, b, s, m, rfl, rfl, ⟨rfl, rfl, a, c, ht, ha, hc, hc2⟩, hm0, hm9, q⟩ := h
  cases e
  unfold t_Ltake
  with_reducible refine g_seq ?_
  walk_at "ss"
  refine ite_d (fun z => ?_) fun z => ?_
  · with_reducible refine g_seqA ?_
    walk_at "ss"
    exact q _ _ (Int.emod_nonneg _ (by omega)) (Int.emod_lt_of_pos _ hm0) ⟨rfl, rfl, _, _, upd_same, Int.ediv_nonneg ha (by omega), hc, hc2⟩ (kp_upd (by simp))
  · walk_at "ss"
    have e0 : 0 ≤ (c * 48271 + 11) % 2147483647 := Int.emod_nonneg _ (by decide)
    have e1 : (c * 48271 + 11) % 2147483647 < 2147483647 := Int.emod_lt_of_pos _ (by decide)
    exact q _ _ (Int.emod_nonneg _ (by omega)) (Int.emod_lt_of_pos _ hm0) ⟨rfl, rfl, _, _, upd_same, ha, e0, by omega⟩ (kp_upd (by simp))
def t_Lbegin (K : PySem.W.Frag) : TS :=
  (tSeq (tIfS (tTest (tOp rGe (tVar 0) (tOp rPow (tC (.int 10)) (tC (.int 18)))))
  (tRet (tLst (tCons (tOp rSub (tVar 0) (tOp rPow (tC (.int 10)) (tC (.int 18)))) (tCons (tC (.int 0)) tNil))))
  tNext)
  (tRet (tLst (tCons (tC (.int 0)) (tCons (tOp rAdd (tOp rMod (tVar 0) (tC (.int 2147483629))) (tC (.int 11))) tNil)))))
theorem pure_Lbegin {K : PySem.W.Frag} {x : V} {H : Hp} {Q : VK} {E : XK} (h : sp_Lbegin K [x] H Q E) : t_Lbegin K { nx := fun _ H' => Q .non H', rt := Q } [some x] H := by
  obtain ⟨x, e, c, rfl, q⟩ := h
  cases e
  unfold t_Lbegin
  walk_at "ss"
  refine ite_d (fun z => ?_) fun z => ?_
  · walk_at "ss"
    rename_i t ht
    exact q t _ (same_new ht) ht ⟨rfl, rfl, _, _, upd_same, by omega, by decide, by decide⟩
  · walk_at "ss"
    rename_i t ht
    have e0 : 0 ≤ c % 2147483629 := Int.emod_nonneg _ (by decide)
    have e1 : c % 2147483629 < 2147483629 := Int.emod_lt_of_pos _ (by decide)
    exact q t _ (same_new ht) ht ⟨rfl, rfl, _, _, upd_same, by decide, by omega, by omega⟩
def t_Lcell_at (K : PySem.W.Frag) : TS :=
  (tSeq (tIfS (tTest (tOp rLt (tVar 1) (tCB (rLen K) (tCons (tVar 0) tNil))))
  (tRet (tOp (rIxL K) (tVar 0) (tVar 1)))
  tNext)
  (tRet (tC (.int 0))))
/-! YX: list.count of flat items; range of three arguments. -/
open PySem PySem.Spec PyProof.Rows L2
/-- l.count(y), flat items -/
def rCntV (K : PySem.W.Frag) : V → List V → Hp → VK → Prop := fun x vs H Q => ∃ (p : Addr) (xs : List V) (y : V), x = .ref p ∧ vs = [y] ∧ flatV y = true ∧ xs.all flatV = true ∧ SqL K H p xs ∧ Q (.int (xs.countP fun z => eqV z y : Nat)) H
theorem cnt_eqU {x : V} : ∀ {xs : List V} {us : List Value}, Vals xs us → xs.all flatV = true → us.countP (eqU x) = xs.countP fun y => eqV y x
  | _, _, .nil, _ => rfl
  | y :: xs, u :: us, .cons r t, f => by
    rw [List.all_cons, Bool.and_eq_true] at f
    rw [List.countP_cons, List.countP_cons, cnt_eqU t f.2, eqU_of r f.1]
theorem mt_cntV {X : Cx} : MtR X "list.count" (rCntV X.K) := by
  intro pins s σ H x xs v us Q I rx rxs h
  obtain ⟨p, ys, y, rfl, rfl, fy, fs, hs, q⟩ := h
  cases rx
  obtain ⟨u, rfl, ru⟩ := rxs.one
  obtain ⟨its, rv, ⟨⟨cls, dd, data, sl⟩, n, ho, hc, hdn, hd⟩, hlen⟩ := I.list hs
  simp only at hc hd
  subst hc hd
  refine call_meets PySem.F.slot_list_count ⟨_, ho, rfl⟩ PySem.F.entry_list_count (PySem.F.args_list_count_2 _ _) (SeqAt.list_countAt p its.toArray n dd sl u (eqU y))
    ⟨ho, fun z hz => mem_eqAt ru fy rv fs z (by simpa using hz), ?_⟩
  refine ⟨.int (ys.countP fun z => eqV z y : Nat), H, I.tok _, ⟨s.toks, ?_⟩, q⟩
  show Value.int ((its.toArray.toList.countP (eqU y) : Nat) : Int) s.toks = Value.int ((ys.countP fun z => eqV z y : Nat) : Int) s.toks
  rw [show its.toArray.toList = its by simp, cnt_eqU rv fs]
theorem g_cntV {K : PySem.W.Frag} {H : Hp} {Q : VK} {p : Addr} {xs : List V} {y : V} (h : SqL K H p xs) (f : flatV y = true) (fs : xs.all flatV = true) (q : Q (.int (xs.countP fun z => eqV z y : Nat)) H) : rCntV K (.ref p) [y] H Q := ⟨p, xs, y, rfl, rfl, f, fs, h, q⟩
/-! YDe: rooms dealt in turn (plain). -/
open PySem PySem.Spec PyProof.Rows L2
/-- the first room that is free on a day -/
def freeR : List Int → Int → Nat
  | [], _ => 0
  | u :: us, c => if u ≤ c then 0 else freeR us c + 1
theorem freeR_le : ∀ (us : List Int) (c : Int), freeR us c ≤ us.length
  | [], _ => Nat.le_refl _
  | u :: us, c => by
    unfold freeR
    split
    · omega
    · have := freeR_le us c
      simp only [List.length_cons]
      omega
theorem freeR_at : ∀ (us : List Int) (c : Int) {k : Nat} {x : Int}, us[k]? = some x → k < freeR us c → c < x
  | [], _, k, x, h, _ => by simp at h
  | u :: us, c, k, x, h, l => by
    unfold freeR at l
    split at l
    · omega
    · cases k with
      | zero => simp at h; omega
      | succ k => exact freeR_at us c (by simpa using h) (by omega)
theorem freeR_is : ∀ (us : List Int) (c : Int) {x : Int}, us[freeR us c]? = some x → x ≤ c
  | [], _, x, h => by simp [freeR] at h
  | u :: us, c, x, h => by
    unfold freeR at h
    split at h
    · simp at h; omega
    · exact freeR_is us c (by simpa using h)
/-- the first free one, found by looking at one after another -/
theorem freeR_eq (us : List Int) (c : Int) {k : Nat} (h : ∀ j x, us[j]? = some x → j < k → c < x) (e : k = us.length ∨ ∃ x, us[k]? = some x ∧ x ≤ c) : freeR us c = k := by
  have l := freeR_le us c
  rcases Nat.lt_trichotomy (freeR us c) k with z | z | z
  · exfalso
    rcases e with e | ⟨x, hx, -⟩
    · have hx := List.getElem?_eq_getElem (show freeR us c < us.length by omega)
      have a := h _ _ hx z
      have b := freeR_is us c hx
      omega
    · have lk : k < us.length := (List.getElem?_eq_some_iff.mp hx).1
      have hx := List.getElem?_eq_getElem (show freeR us c < us.length by omega)
      have a := h _ _ hx z
      have b := freeR_is us c hx
      omega
  · exact z
  · exfalso
    rcases e with e | ⟨x, hx, hc⟩
    · omega
    · have := freeR_at us c hx z
      omega
def putR (us : List Int) (c g : Int) : List Int := if freeR us c < us.length then us.set (freeR us c) g else us ++ [g]
def disj (p q : Pr × Nat) : Prop := p.2 = q.2 → p.1.2 ≤ q.1.1 ∨ q.1.2 ≤ p.1.1
def cov (d : Int) (p : Pr × Nat) : Bool := decide (p.1.1 ≤ d) && decide (d < p.1.2)
/-- what holds of the stays that have rooms -/
structure Dealt (us : List Int) (D : List (Pr × Nat)) : Prop where
  len : ∀ p ∈ D, p.2 < us.length
  top : ∀ p ∈ D, ∀ x, us[p.2]? = some x → p.1.2 ≤ x
  att : ∀ r x, us[r]? = some x → ∃ p ∈ D, p.2 = r ∧ p.1.2 = x
  dis : D.Pairwise disj
  peak : us.length = 0 ∨ ∃ d, us.length ≤ D.countP (cov d)
theorem Dealt.nil : Dealt [] [] := ⟨by simp, by simp, by simp, List.Pairwise.nil, .inl rfl⟩
theorem disj_symm {p q : Pr × Nat} (h : disj p q) : disj q p := fun e => (h e.symm).symm
theorem Dealt.step {us : List Int} {D : List (Pr × Nat)} (h : Dealt us D) {c g : Int} (lt : c < g) (low : ∀ p ∈ D, p.1.1 ≤ c) : Dealt (putR us c g) (D ++ [((c, g), freeR us c)]) := by
  have le := freeR_le us c
  have free : ∀ p ∈ D, p.2 = freeR us c → p.1.2 ≤ c := fun p hp e => by
    obtain ⟨x, hx⟩ : ∃ x, us[p.2]? = some x := ⟨_, List.getElem?_eq_getElem (h.len p hp)⟩
    have a := h.top p hp _ hx
    rw [e] at hx
    have b := freeR_is us c hx
    omega
  have dis : (D ++ [((c, g), freeR us c)]).Pairwise disj := by
    rw [List.pairwise_append]
    refine ⟨h.dis, List.pairwise_singleton .., fun p hp q hq => ?_⟩
    rw [List.mem_singleton.mp hq]
    exact fun e => .inl (free p hp e)
  by_cases z : freeR us c < us.length
  · have e : putR us c g = us.set (freeR us c) g := if_pos z
    rw [e]
    refine ⟨fun p hp => ?_, fun p hp x hx => ?_, fun r x hx => ?_, dis, ?_⟩
    · rw [List.length_set]
      rcases List.mem_append.mp hp with hp | hp
      · exact h.len p hp
      · rw [List.mem_singleton.mp hp]; exact z
    · rw [List.getElem?_set] at hx
      rcases List.mem_append.mp hp with hp | hp
      · split at hx
        · rename_i e
          have := free p hp e.symm
          have := Option.some.inj hx
          omega
        · exact h.top p hp x hx
      · rw [List.mem_singleton.mp hp] at hx ⊢
        simp only [if_true, z] at hx
        have := Option.some.inj hx
        show g ≤ x
        omega
    · rw [List.getElem?_set] at hx
      split at hx
      · rename_i e
        exact ⟨_, List.mem_append_right _ (List.mem_singleton.mpr rfl), e, Option.some.inj hx⟩
      · obtain ⟨p, hp, q⟩ := h.att r x hx
        exact ⟨p, List.mem_append_left _ hp, q⟩
    · rw [List.length_set]
      rcases h.peak with h | ⟨d, h⟩
      · exact .inl h
      · exact .inr ⟨d, by rw [List.countP_append]; omega⟩
  · have e : putR us c g = us ++ [g] := if_neg z
    have er : freeR us c = us.length := by omega
    rw [e]
    refine ⟨fun p hp => ?_, fun p hp x hx => ?_, fun r x hx => ?_, dis, .inr ⟨c, ?_⟩⟩
    · rw [List.length_append, List.length_singleton]
      rcases List.mem_append.mp hp with hp | hp
      · have := h.len p hp
        omega
      · rw [List.mem_singleton.mp hp, er]
        exact Nat.lt_succ_self _
    · rcases List.mem_append.mp hp with hp | hp
      · rw [List.getElem?_append_left (h.len p hp)] at hx
        exact h.top p hp x hx
      · rw [List.mem_singleton.mp hp] at hx ⊢
        simp [er] at hx
        show g ≤ x
        omega
    · by_cases l : r < us.length
      · rw [List.getElem?_append_left l] at hx
        obtain ⟨p, hp, q⟩ := h.att r x hx
        exact ⟨p, List.mem_append_left _ hp, q⟩
      · have lr : r = us.length := by
          have := (List.getElem?_eq_some_iff.mp hx).1
          rw [List.length_append, List.length_singleton] at this
          omega
        subst lr
        simp at hx
        exact ⟨_, List.mem_append_right _ (List.mem_singleton.mpr rfl), er, hx⟩
    · rw [List.length_append, List.length_singleton, List.countP_append]
      have one : [((c, g), freeR us c)].countP (cov c) = 1 := by simp [cov, lt]
      rw [one, List.countP_eq_length_filter, ← List.length_map (f := fun p : Pr × Nat => p.2)]
      have := nat_nodup_len (List.range us.length) ((D.filter (cov c)).map (·.2)) List.nodup_range fun r hr => by
        have l := List.mem_range.mp hr
        have hx := List.getElem?_eq_getElem l
        obtain ⟨p, hp, e1, e2⟩ := h.att r _ hx
        have gt := freeR_at us c hx (by omega)
        refine List.mem_map.mpr ⟨p, List.mem_filter.mpr ⟨hp, ?_⟩, e1⟩
        have := low p hp
        simp only [cov, Bool.and_eq_true, decide_eq_true_eq]
        omega
      rw [List.length_range] at this
      omega
/-- the rooms of stays in turn -/
def dealR : List Pr → List Int → List Nat
  | [], _ => []
  | p :: ps, us => freeR us p.1 :: dealR ps (putR us p.1 p.2)
def endR : List Pr → List Int → List Int
  | [], us => us
  | p :: ps, us => endR ps (putR us p.1 p.2)
theorem dealt_all : ∀ (ps : List Pr) (us : List Int) (D : List (Pr × Nat)), Dealt us D → (∀ p ∈ ps, p.1 < p.2) → ps.Pairwise (fun p q => p.1 ≤ q.1) → (∀ p ∈ D, ∀ q ∈ ps, p.1.1 ≤ q.1) → Dealt (endR ps us) (D ++ ps.zip (dealR ps us))
  | [], us, D, h, _, _, _ => by simpa [dealR, endR] using h
  | (c, g) :: ps, us, D, h, ok, so, low => by
    have h1 := h.step (ok (c, g) List.mem_cons_self) fun p hp => low p hp (c, g) List.mem_cons_self
    have h2 := dealt_all ps _ _ h1 (fun p hp => ok p (List.mem_cons_of_mem _ hp)) (List.pairwise_cons.mp so).2 fun p hp q hq => by
      rcases List.mem_append.mp hp with hp | hp
      · exact low p hp q (List.mem_cons_of_mem _ hq)
      · rw [List.mem_singleton.mp hp]
        exact (List.pairwise_cons.mp so).1 q hq
    rw [List.append_assoc] at h2
    exact h2
theorem dealR_len : ∀ (ps : List Pr) (us : List Int), (dealR ps us).length = ps.length
  | [], _ => rfl
  | p :: ps, us => by rw [dealR, List.length_cons, dealR_len, List.length_cons]
theorem endR_len : ∀ (ps : List Pr) (us : List Int), (endR ps us).length ≤ us.length + ps.length
  | [], us => Nat.le_refl _
  | p :: ps, us => by
    have := endR_len ps (putR us p.1 p.2)
    have : (putR us p.1 p.2).length ≤ us.length + 1 := by
      unfold putR
      split <;> simp
    rw [endR, List.length_cons]
    omega
theorem dealR_at : ∀ (ps : List Pr) (us : List Int) (k : Nat) {p : Pr}, ps[k]? = some p → (dealR ps us)[k]? = some (freeR (endR (ps.take k) us) p.1) ∧ endR (ps.take (k + 1)) us = putR (endR (ps.take k) us) p.1 p.2
  | [], _, k, _, h => by simp at h
  | q :: ps, us, 0, p, h => by
    simp at h
    subst h
    exact ⟨rfl, rfl⟩
  | q :: ps, us, k + 1, p, h => dealR_at ps (putR us q.1 q.2) k (by simpa using h)
/-- what the law asks of the stays with their rooms -/
structure Rooms (n : Nat) (D : List (Pr × Nat)) : Prop where
  use : ∀ r, r < n ↔ ∃ p ∈ D, p.2 = r
  dis : D.Pairwise disj
  most : ∀ d, D.countP (cov d) ≤ n
  peak : n = 0 ∨ ∃ d, D.countP (cov d) = n
theorem Dealt.rooms {us : List Int} {D : List (Pr × Nat)} (h : Dealt us D) (ok : ∀ p ∈ D, p.1.1 < p.1.2) : Rooms us.length D := by
  have most : ∀ d, D.countP (cov d) ≤ us.length := fun d => by
    rw [List.countP_eq_length_filter, ← List.length_map (f := fun p : Pr × Nat => p.2), ← List.length_range (n := us.length)]
    refine nat_nodup_len _ _ (List.pairwise_map.mpr ((h.dis.filter _).imp_of_mem fun {p q} hp hq e z => ?_)) fun r hr => ?_
    · have a := (List.mem_filter.mp hp).2
      have b := (List.mem_filter.mp hq).2
      simp only [cov, Bool.and_eq_true, decide_eq_true_eq] at a b
      have := e z
      omega
    · obtain ⟨p, hp, rfl⟩ := List.mem_map.mp hr
      exact List.mem_range.mpr (h.len p (List.mem_filter.mp hp).1)
  refine ⟨fun r => ⟨fun l => ?_, ?_⟩, h.dis, most, ?_⟩
  · obtain ⟨p, hp, e, -⟩ := h.att r _ (List.getElem?_eq_getElem l)
    exact ⟨p, hp, e⟩
  · rintro ⟨p, hp, rfl⟩
    exact h.len p hp
  · rcases h.peak with e | ⟨d, e⟩
    · exact .inl e
    · exact .inr ⟨d, Nat.le_antisymm (most d) e⟩
theorem Rooms.perm {n : Nat} {D D' : List (Pr × Nat)} (h : Rooms n D) (pm : D'.Perm D) : Rooms n D' :=
  ⟨fun r => (h.use r).trans ⟨fun ⟨p, a, b⟩ => ⟨p, pm.mem_iff.mpr a, b⟩, fun ⟨p, a, b⟩ => ⟨p, pm.mem_iff.mp a, b⟩⟩, (pm.pairwise_iff fun e => disj_symm e).mpr h.dis, fun d => by rw [pm.countP_eq]; exact h.most d, h.peak.imp id fun ⟨d, e⟩ => ⟨d, by rw [pm.countP_eq]; exact e⟩⟩
/-! ### the rooms laid at their stays' places -/
theorem zip_at {ps : List Pr} {F : List Nat} (l : F.length = ps.length) : ps.zip F = (List.range ps.length).map fun i => (ps.getD i (0, 0), F.getD i 0) := by
  apply List.ext_getElem?
  intro i
  rw [List.getElem?_map]
  by_cases h : i < ps.length
  · rw [List.getElem?_range h]
    have h2 : i < F.length := by omega
    simp [List.getElem?_zip_eq_some, List.getD_eq_getElem?_getD, List.getElem?_eq_getElem h, List.getElem?_eq_getElem h2]
  · simp [List.getElem?_eq_none (show (ps.zip F).length ≤ i by simp; omega), h]
/-- us: the stays with their places, in the sorted order; each place holds its stay's room -/
theorem dealt_rooms {ps : List Pr} {us : List (Pr × Int)} {F : List Nat} (pm : us.Perm ((List.range ps.length).map fun i => (ps.getD i (0, 0), (i : Int)))) (so : us.Pairwise fun p q => p.1.1 ≤ q.1.1) (ok : ∀ p ∈ ps, p.1 < p.2) (l : F.length = ps.length)
    (at_ : ∀ (k : Nat) (q : Pr × Int), us[k]? = some q → F[q.2.toNat]? = (dealR (us.map (·.1)) [])[k]?) : Rooms (endR (us.map (·.1)) []).length (ps.zip F) := by
  have ul : us.length = ps.length := by rw [pm.length_eq]; simp
  have mem : ∀ q ∈ us, q.1 ∈ ps := fun q hq => by
    obtain ⟨i, hi, rfl⟩ := List.mem_map.mp (pm.mem_iff.mp hq)
    have hi := List.mem_range.mp hi
    rw [List.getD_eq_getElem?_getD, List.getElem?_eq_getElem hi]
    exact List.getElem_mem hi
  have ok2 : ∀ p ∈ us.map (·.1), p.1 < p.2 := fun p hp => by
    obtain ⟨q, hq, rfl⟩ := List.mem_map.mp hp
    exact ok _ (mem q hq)
  have D := dealt_all (us.map (·.1)) [] [] Dealt.nil ok2 (List.pairwise_map.mpr so) (by simp)
  rw [List.nil_append] at D
  refine (D.rooms fun p hp => ?_).perm ?_
  · exact ok2 _ (List.of_mem_zip hp).1
  · have e : (us.map (·.1)).zip (dealR (us.map (·.1)) []) = us.map fun q => (q.1, F.getD q.2.toNat 0) := by
      apply List.ext_getElem?
      intro k
      rw [List.getElem?_map]
      cases h : us[k]? with
      | none =>
        have := List.getElem?_eq_none_iff.mp h
        rw [List.getElem?_eq_none]
        · rfl
        · simp
          omega
      | some q =>
        have lk : k < us.length := (List.getElem?_eq_some_iff.mp h).1
        have r := at_ k q h
        obtain ⟨x, hx⟩ : ∃ x, (dealR (us.map (·.1)) [])[k]? = some x := ⟨_, List.getElem?_eq_getElem (by rw [dealR_len]; simpa using lk)⟩
        rw [hx] at r
        rw [List.getElem?_zip_eq_some.mpr (show ((us.map (·.1))[k]? = some (q.1, x).1 ∧ (dealR (us.map (·.1)) [])[k]? = some (q.1, x).2) from ⟨by rw [List.getElem?_map, h]; rfl, hx⟩)]
        simp [List.getD_eq_getElem?_getD, r]
    rw [e, zip_at l]
    have := pm.map fun q : Pr × Int => (q.1, F.getD q.2.toNat 0)
    rw [List.map_map] at this
    exact this.symm
/-! YA: data of any shape in the heap. -/
open PySem PySem.Spec PyProof.Rows L2
mutual
/-- v is laid as d; its lists and tuples stand at none of L -/
inductive At (H : Hp) (L : List Addr) : V → PyData → Prop
  | non : At H L .non .none
  | bl (b : Bool) : At H L (.bl b) (.bool b)
  | int (i : Int) : At H L (.int i) (.int i)
  | str (z : Str) : At H L (.str z) (.str z)
  | lst {a : Addr} {xs : List V} {ds : List PyData} (n : a ∉ L) (h : H a = some (.lst xs)) (r : Ats H L xs ds) : At H L (.ref a) (.list ds)
  | tup {a : Addr} {xs : List V} {ds : List PyData} (n : a ∉ L) (h : H a = some (.tup xs)) (r : Ats H L xs ds) : At H L (.ref a) (.tuple ds)
inductive Ats (H : Hp) (L : List Addr) : List V → List PyData → Prop
  | nil : Ats H L [] []
  | cons {v : V} {vs : List V} {d : PyData} {ds : List PyData} (h : At H L v d) (r : Ats H L vs ds) : Ats H L (v :: vs) (d :: ds)
end
mutual
theorem At.mono {H H' : Hp} {L L' : List Addr} (k : ∀ a o, H a = some o → a ∉ L → H' a = some o) (l : ∀ a ∈ L', a ∈ L) : ∀ {v : V} {d : PyData}, At H L v d → At H' L' v d
  | _, _, .non => .non
  | _, _, .bl b => .bl b
  | _, _, .int i => .int i
  | _, _, .str z => .str z
  | _, _, .lst n h r => .lst (fun z => n (l _ z)) (k _ _ h n) (Ats.mono k l r)
  | _, _, .tup n h r => .tup (fun z => n (l _ z)) (k _ _ h n) (Ats.mono k l r)
theorem Ats.mono {H H' : Hp} {L L' : List Addr} (k : ∀ a o, H a = some o → a ∉ L → H' a = some o) (l : ∀ a ∈ L', a ∈ L) : ∀ {vs : List V} {ds : List PyData}, Ats H L vs ds → Ats H' L' vs ds
  | _, _, .nil => .nil
  | _, _, .cons h r => .cons (At.mono k l h) (Ats.mono k l r)
end
theorem At.kp {H H' : Hp} {L : List Addr} {v : V} {d : PyData} (k : Kp L H H') (h : At H L v d) : At H' L v d := h.mono k fun _ z => z
mutual
/-- data of tuples alone -/
inductive Td (H : Hp) : V → PyData → Prop
  | non : Td H .non .none
  | bl (b : Bool) : Td H (.bl b) (.bool b)
  | int (i : Int) : Td H (.int i) (.int i)
  | str (z : Str) : Td H (.str z) (.str z)
  | tup {a : Addr} {xs : List V} {ds : List PyData} (h : H a = some (.tup xs)) (r : Tds H xs ds) : Td H (.ref a) (.tuple ds)
inductive Tds (H : Hp) : List V → List PyData → Prop
  | nil : Tds H [] []
  | cons {v : V} {vs : List V} {d : PyData} {ds : List PyData} (h : Td H v d) (r : Tds H vs ds) : Tds H (v :: vs) (d :: ds)
end
mutual
theorem Td.tk {H H' : Hp} (k : Tk H H') : ∀ {v : V} {d : PyData}, Td H v d → Td H' v d
  | _, _, .non => .non
  | _, _, .bl b => .bl b
  | _, _, .int i => .int i
  | _, _, .str z => .str z
  | _, _, .tup h r => .tup (k _ _ h) (Tds.tk k r)
theorem Tds.tk {H H' : Hp} (k : Tk H H') : ∀ {vs : List V} {ds : List PyData}, Tds H vs ds → Tds H' vs ds
  | _, _, .nil => .nil
  | _, _, .cons h r => .cons (Td.tk k h) (Tds.tk k r)
end
/-! ### the length of what is shown -/
/-- may be shown: by so many signs, so deep -/
structure Sho (k m : Nat) (d : PyData) : Prop where
  sh : d.showable = true
  nd : d.hasDict = false
  dp : d.depth ≤ k
  sz : d.shown.length ≤ m
/-! YK: kinds of rules, their classes; what the rules' defs promise. -/
open PySem PySem.Spec PyProof.Rows L2
/-- the words of rules -/
inductive Wd | price | come | go | least | most | deal | fee
  deriving DecidableEq
def Wd.cls : Wd → Str
  | .price => "Price" | .come => "Come" | .go => "Go" | .least => "Least" | .most => "Most" | .deal => "Deal" | .fee => "Fee"
def Wd.word : Wd → Str
  | .price => "price" | .come => "come" | .go => "go" | .least => "least" | .most => "most" | .deal => "deal" | .fee => "fee"
abbrev aC (K : PySem.W.Frag) (w : Wd) : Addr := He.ga K w.cls
def CFR (K : PySem.W.Frag) : Prop := exRules K = true
section
variable {K : PySem.W.Frag} (c : CFR K)
include c
end
/-! ### data of rules -/
def isW : PyData → Bool
  | .int _ => true
  | _ => false
def isDay : PyData → Bool
  | .int i => decide (0 ≤ i) && decide (i ≤ 1000000)
  | _ => false
def is2 : PyData → Bool
  | .tuple [a, b] => isDay a && isDay b
  | _ => false
def isStr : PyData → Bool
  | .tuple [.int a, .int b] => isDay (.int a) && (isDay (.int b) && decide (a ≤ b))
  | _ => false
def isCoins : PyData → Bool
  | .int i => decide (0 ≤ i) && decide (i ≤ 1000000000000)
  | _ => false
def isNights : PyData → Bool
  | .int i => decide (1 ≤ i) && decide (i ≤ 14)
  | _ => false
def isNone : PyData → Bool
  | .none => true
  | _ => false
def isBool : PyData → Bool
  | .bool _ => true
  | _ => false
def isDeal : PyData → Bool
  | .none => true
  | .tuple [a, .int f] => isNights a && (match a with | .int m => decide (1 ≤ f) && decide (f < m) | _ => false)
  | _ => false
def fitsD : Wd → PyData → Bool
  | .price, d => isNone d || isCoins d
  | .come, d => isBool d
  | .go, d => isBool d
  | .least, d => isNights d
  | .most, d => isNights d
  | .deal, d => isDeal d
  | .fee, d => isCoins d
structure RuleD where
  w : Wd
  f : Int
  l : Int
  d : PyData
def RuleD.told (r : RuleD) : PyData := .tuple [.str r.w.word, .int r.f, .int r.l, r.d]
def RuleD.good (r : RuleD) : Prop := 0 ≤ r.f ∧ r.f ≤ r.l ∧ r.l ≤ 1000000 ∧ fitsD r.w r.d = true
/-- a rule's object -/
def RuleAt (K : PySem.W.Frag) (H : Hp) (v : V) (r : RuleD) : Prop := ∃ (a dx : Addr) (wv : V), v = .ref a ∧ H a = some (.ins (aC K r.w) dx [("first", .int r.f), ("last", .int r.l), ("worth", wv)]) ∧ Td H wv r.d
/-! ### promises -/
def sp_is_whole (K : PySem.W.Frag) : Sp := Sp1 fun x H Q E => ∃ d, At H [] x d ∧ Q (.bl (isW d)) H
def sp_is_day (K : PySem.W.Frag) : Sp := Sp1 fun x H Q E => ∃ d, At H [] x d ∧ Q (.bl (isDay d)) H
def sp_is_two_days (K : PySem.W.Frag) : Sp := Sp1 fun x H Q E => ∃ d, At H [] x d ∧ Q (.bl (is2 d)) H
def sp_is_stretch (K : PySem.W.Frag) : Sp := Sp1 fun x H Q E => ∃ d, At H [] x d ∧ Q (.bl (isStr d)) H
def sp_is_coins (K : PySem.W.Frag) : Sp := Sp1 fun x H Q E => ∃ d, At H [] x d ∧ Q (.bl (isCoins d)) H
def sp_is_nights (K : PySem.W.Frag) : Sp := Sp1 fun x H Q E => ∃ d, At H [] x d ∧ Q (.bl (isNights d)) H
/-! YJ: rules' objects: their fields, their making, their methods. -/
open PySem PySem.Spec PyProof.Rows L2
/-- an object of the class of w with these three fields -/
def InsAt (K : PySem.W.Frag) (H : Hp) (v : V) (w : Wd) (x y z : V) : Prop := ∃ a dx, v = .ref a ∧ H a = some (.ins (aC K w) dx [("first", x), ("last", y), ("worth", z)])
/-- all that is no list stays -/
def Nk (H H' : Hp) : Prop := ∀ a o, H a = some o → (∀ xs, o ≠ .lst xs) → H' a = some o
theorem Nk.trans {H H1 H2 : Hp} (a : Nk H H1) (b : Nk H1 H2) : Nk H H2 := fun c o h n => b c o (a c o h n) n
theorem Nk.tk {H H' : Hp} (k : Nk H H') : Tk H H' := fun a xs h => k a _ h fun ys z => by cases z
theorem nk_kp {H H' : Hp} {t b s : Addr} (T : Tape H t b s) (k : Kp [t, b] H H') : Nk H H' := fun a o e n => k a _ e fun m => by
  obtain ⟨⟨_, h1⟩, _, h2⟩ := tape_lst T
  rcases List.mem_cons.mp m with z | m
  · rw [z, h1] at e; cases e; exact n _ rfl
  · rw [List.mem_singleton.mp m, h2] at e; cases e; exact n _ rfl
section
variable {K : PySem.W.Frag} {H H' : Hp} {v x y z : V} {w : Wd} {r : RuleD}
end
/-! ### readings -/
/-- a method of whichever rule's class -/
def tRule (K : PySem.W.Frag) (m : Str) (sp : Wd → Sp) (ta : TE) (t : TA) : TE := fun σ H Q => ∃ w : Wd, tMeth (aC K w) m (sp w) [] E0 ta t σ H Q
/-! ### isinstance -/
/-! ### promises -/
def sp_Rule_init (K : PySem.W.Frag) : Sp := Sp4 fun v x y z H Q E => CFR K ∧ ∃ (a dx : Addr) (w : Wd), v = .ref a ∧ H a = some (.ins (aC K w) dx []) ∧ Q .non (upd H a (.ins (aC K w) dx [("first", x), ("last", y), ("worth", z)]))
def rMake (C : Addr) (sp : Sp) (dvs : List V) (E : XK) (vs : List V) (H1 : Hp) (Q : VK) : Prop := ∀ x dx, H1 x = none → H1 dx = none → dx ≠ x → sp (.ref x :: (vs ++ dvs)) (upd (upd H1 dx (.own x)) x (.ins C dx [])) (fun v H2 => v = .non ∧ Q (.ref x) H2) E
def sp_word (K : PySem.W.Frag) (w : Wd) : Sp := Sp1 fun x H Q E => Q (.str w.word) H
abbrev sp_Price_word (K : PySem.W.Frag) : Sp := sp_word K .price
abbrev sp_Come_word (K : PySem.W.Frag) : Sp := sp_word K .come
abbrev sp_Go_word (K : PySem.W.Frag) : Sp := sp_word K .go
abbrev sp_Least_word (K : PySem.W.Frag) : Sp := sp_word K .least
abbrev sp_Most_word (K : PySem.W.Frag) : Sp := sp_word K .most
abbrev sp_Deal_word (K : PySem.W.Frag) : Sp := sp_word K .deal
abbrev sp_Fee_word (K : PySem.W.Frag) : Sp := sp_word K .fee
def sp_fits (K : PySem.W.Frag) (w : Wd) : Sp := Sp1 fun v H Q E => CFR K ∧ ∃ x y z d, InsAt K H v w x y z ∧ At H [] z d ∧ Q (.bl (fitsD w d)) H
abbrev sp_Price_fits (K : PySem.W.Frag) : Sp := sp_fits K .price
abbrev sp_Come_fits (K : PySem.W.Frag) : Sp := sp_fits K .come
abbrev sp_Go_fits (K : PySem.W.Frag) : Sp := sp_fits K .go
abbrev sp_Least_fits (K : PySem.W.Frag) : Sp := sp_fits K .least
abbrev sp_Most_fits (K : PySem.W.Frag) : Sp := sp_fits K .most
abbrev sp_Deal_fits (K : PySem.W.Frag) : Sp := sp_fits K .deal
abbrev sp_Fee_fits (K : PySem.W.Frag) : Sp := sp_fits K .fee
/-- the rule's tuple: a new one -/
def sp_Rule_told (K : PySem.W.Frag) : Sp := Sp1 fun v H Q E => CFR K ∧ ∃ w x y z, InsAt K H v w x y z ∧ ∀ p H', Same H H' → Fr H p → H' p = some (.tup [.str w.word, x, y, z]) → Q (.ref p) H'
abbrev sp_told (K : PySem.W.Frag) (_ : Wd) : Sp := sp_Rule_told K
def sp_Rule_tells (K : PySem.W.Frag) : Sp := Sp2 fun v u H Q E => CFR K ∧ ∃ w f l z d, InsAt K H v w (.int f) (.int l) z ∧ u = .int d ∧ Q (.bl (decide (f ≤ d) && decide (d ≤ l))) H
abbrev sp_tells (K : PySem.W.Frag) (_ : Wd) : Sp := sp_Rule_tells K
def sp_made (K : PySem.W.Frag) : Sp := Sp4 fun u x y z H Q E => CFR K ∧ ∃ w : Wd, u = .str w.word ∧ ∀ v H', Same H H' → InsAt K H' v w x y z → Q v H'
def wordOf (z : Str) : Option Wd := [Wd.price, .come, .go, .least, .most, .deal, .fee].find? fun w => decide (w.word = z)
/-- the rule that data tell -/
def asRule : PyData → Option RuleD
  | .tuple [.str z, .int f, .int l, d] => match wordOf z with
    | some w => if (isStr (.tuple [.int f, .int l]) && fitsD w d) = true then some ⟨w, f, l, d⟩ else none
    | none => none
  | _ => none
def sp_rule_of (K : PySem.W.Frag) : Sp := Sp1 fun x H Q E => CFR K ∧ ∃ d, At H [] x d ∧ (asRule d = none → ∀ H', Same H H' → Q .non H') ∧ ∀ r, asRule d = some r → ∀ v H', Same H H' → RuleAt K H' v r → Q v H'
/-- a rule's tuple -/
def RuT (H : Hp) (v : V) (r : RuleD) : Prop := ∃ p wv, v = .ref p ∧ H p = some (.tup [.str r.w.word, .int r.f, .int r.l, wv]) ∧ Td H wv r.d
/-! YI: the rules' defs keep what they promise. -/
open PySem PySem.Spec PyProof.Rows L2
/-! YQ: books in the heap. -/
open PySem PySem.Spec PyProof.Rows L2
/-- what is told of the class of books -/
def CFB (K : PySem.W.Frag) : Prop := exBook K = true
/-- objects and tuples stay -/
structure Ik (H H' : Hp) : Prop where
  ins : ∀ a C dx fs, H a = some (.ins C dx fs) → H' a = some (.ins C dx fs)
  tup : Tk H H'
theorem Ik.trans {H H1 H2 : Hp} (a : Ik H H1) (b : Ik H1 H2) : Ik H H2 := ⟨fun x C dx fs h => b.ins x C dx fs (a.ins x C dx fs h), a.tup.trans b.tup⟩
theorem Nk.ik {H H' : Hp} (k : Nk H H') : Ik H H' := ⟨fun a C dx fs h => k _ _ h (fun xs e => by cases e), k.tk⟩
theorem RuleAt.ik {K : PySem.W.Frag} {H H' : Hp} {v : V} {r : RuleD} (k : Ik H H') (h : RuleAt K H v r) : RuleAt K H' v r := let ⟨a, dx, wv, e, h, q⟩ := h; ⟨a, dx, wv, e, k.ins _ _ _ _ h, q.tk k.tup⟩
abbrev RulesAt (K : PySem.W.Frag) (H : Hp) : List V → List RuleD → Prop := Paired (RuleAt K H)
theorem RulesAt.ik {K : PySem.W.Frag} {H H' : Hp} {xs : List V} {rs : List RuleD} (k : Ik H H') (h : RulesAt K H xs rs) : RulesAt K H' xs rs := Paired.mapP h fun _ _ q => q.ik k
/-- the rules of a word, the newest first -/
def newestOf (rs : List RuleD) (w : Wd) : List RuleD := (rs.filter fun r => decide (r.w = w)).reverse
/-- a book's parts -/
structure BookIn (K : PySem.W.Frag) (H : Hp) (a dx lk nd : Addr) (kvs : List (Key × V)) (nw : Wd → Option Addr) (rs : List RuleD) : Prop where
  obj : H a = some (.ins (He.ga K "Book") dx [("kept", .ref lk), ("newest", .ref nd)])
  kept : ∃ ks, H lk = some (.lst ks) ∧ RulesAt K H ks rs
  dic : H nd = some (.dK kvs)
  small : kvs.length ≤ rs.length
  key : ∀ w : Wd, valV kvs (.inr w.word) = (nw w).map V.ref
  here : ∀ w l, nw w = some l → ∃ xs, H l = some (.lst xs) ∧ RulesAt K H xs (newestOf rs w)
  none' : ∀ w, nw w = none → newestOf rs w = []
  inj : ∀ w w' l, nw w = some l → nw w' = some l → w = w'
  ne : ∀ w l, nw w = some l → l ≠ lk
/-- the lists of a book -/
def BookF (lk : Addr) (nw : Wd → Option Addr) : List Addr := lk :: [Wd.price, .come, .go, .least, .most, .deal, .fee].filterMap nw
theorem bookF_mem {lk : Addr} {nw : Wd → Option Addr} {w : Wd} {l : Addr} (h : nw w = some l) : l ∈ BookF lk nw := by
  refine List.mem_cons_of_mem _ (List.mem_filterMap.mpr ⟨w, ?_, h⟩)
  cases w <;> simp
/-- a book; F: its lists -/
def BookAt (K : PySem.W.Frag) (H : Hp) (F : List Addr) (v : V) (rs : List RuleD) : Prop := ∃ a dx lk nd kvs nw, v = .ref a ∧ F = BookF lk nw ∧ BookIn K H a dx lk nd kvs nw rs
theorem BookAt.mono {K : PySem.W.Frag} {H H' : Hp} {F : List Addr} {v : V} {rs : List RuleD} (k : Nk H H') (l : ∀ p ∈ F, ∀ xs, H p = some (.lst xs) → H' p = some (.lst xs)) (h : BookAt K H F v rs) : BookAt K H' F v rs := by
  obtain ⟨a, dx, lk, nd, kvs, nw, rfl, rfl, B⟩ := h
  obtain ⟨ks, h1, h2⟩ := B.kept
  have ik := k.ik
  refine ⟨a, dx, lk, nd, kvs, nw, rfl, rfl, ik.ins _ _ _ _ B.obj, ⟨ks, l _ (by simp [BookF]) _ h1, h2.ik ik⟩, k _ _ B.dic (fun xs e => by cases e), B.small, B.key, fun w p hp => ?_, B.none', B.inj, B.ne⟩
  obtain ⟨xs, h3, h4⟩ := B.here w p hp
  exact ⟨xs, l _ (bookF_mem hp) _ h3, h4.ik ik⟩
theorem bk_kp {K : PySem.W.Frag} {H H' : Hp} {t b s : Addr} {F : List Addr} {v : V} {rs : List RuleD} (k : Kp [t, b] H H') (T : Tape H t b s) (n : ∀ p ∈ F, p ∉ [t, b]) (h : BookAt K H F v rs) : BookAt K H' F v rs := h.mono (nk_kp T k) fun q hq xs e => k _ _ e (n q hq)
/-! YS: what a book's defs promise, and that they keep it. -/
open PySem PySem.Spec PyProof.Rows L2
/-- a raise that is never reached -/
def tNever : TS := fun _ _ _ => False
def usualD : Wd → PyData
  | .price => .none | .come => .bool true | .go => .bool true | .least => .int 1 | .most => .int 14 | .deal => .none | .fee => .int 0
def usualV : Wd → V
  | .price => .non | .come => .bl true | .go => .bl true | .least => .int 1 | .most => .int 14 | .deal => .non | .fee => .int 0
def tellsD (rs : List RuleD) (w : Wd) (day : Int) : PyData := match (newestOf rs w).find? fun r => decide (r.f ≤ day) && decide (day ≤ r.l) with
  | some r => r.d
  | none => usualD w
def sp_usual (K : PySem.W.Frag) : Sp := Sp1 fun x H Q E => ∃ w : Wd, x = .str w.word ∧ Q (usualV w) H
def sp_Book_rules (K : PySem.W.Frag) : Sp := Sp1 fun v H Q E => CFR K ∧ CFB K ∧ ∃ F rs, BookAt K H F v rs ∧ rs.length ≤ 1000 ∧ ∀ p H' ys, Same H H' → Fr H p → H' p = some (.lst ys) → Paired (RuT H') ys rs → Q (.ref p) H'
def sp_Book_tells_of (K : PySem.W.Frag) : Sp := Sp3 fun v u y H Q E => CFR K ∧ CFB K ∧ ∃ F rs w day, BookAt K H F v rs ∧ u = .str w.word ∧ y = .int day ∧ ∀ x H', Same H H' → Td H' x (tellsD rs w day) → Q x H'
def sp_Book_init (K : PySem.W.Frag) : Sp := Sp2 fun v y H Q E => CFR K ∧ CFB K ∧ ∃ (a dx : Addr) (xs : List V) (rs : List RuleD), v = .ref a ∧ H a = some (.ins (He.ga K "Book") dx []) ∧ ((y = .non ∧ xs = []) ∨ ∃ p, y = .ref p ∧ SqL K H p xs) ∧ Paired (RuT H) xs rs ∧ rs.length ≤ 24 ∧ (∀ r ∈ rs, RuleD.good r) ∧
  ∀ H' F, Kp [a] H H' → BookAt K H' F v rs → (∀ p ∈ F, Fr H p) → Q .non H'
/-- a field is written -/
def rSF (K : PySem.W.Frag) (f : Str) (x y : V) (H2 : Hp) (Q : Hp → Prop) : Prop := ∃ a C dx fs, x = .ref a ∧ H2 a = some (.ins C dx fs) ∧ Cls K C ∧ NoAttr K C f ∧ fs.length < 1000 ∧ Q (upd H2 a (.ins C dx (putF f y fs)))
theorem g_iEnum {K : PySem.W.Frag} {σ : L2.St} {H : Hp} {ta : TA} {R : It → Hp → Prop} (h : ta σ H fun vs H1 => ∃ a xs, vs = [.ref a] ∧ SqL K H1 a xs ∧ R (Ite K a) H1) : iEnum K ta σ H R := h
/-! YU: lists of drawn rules. -/
open PySem PySem.Spec PyProof.Rows L2
def Rus (H : Hp) (xs : List V) (rs : List RuleD) : Prop := Paired (RuT H) xs rs
/-- a method of what an expression makes -/
def rObj (C : Addr) (m : Str) (x : V) (H1 : Hp) (R : Hp → Prop) : Prop := ∃ a dx fs, x = .ref a ∧ H1 a = some (.ins C dx fs) ∧ fs.lookup m = none ∧ R H1
theorem g_slTo {K : PySem.W.Frag} {H : Hp} {Q : VK} {p : Addr} {xs : List V} {n : Int} (hn : 0 ≤ n) (h : SqL K H p xs) (q : ∀ a, Fr H a → Q (.ref a) (upd H a (.lst (xs.take n.toNat)))) : rSlL K (.ref p) none (some n) H Q := g_slL h fun a ha => by
  rw [cut_to hn]; exact q a ha
/-! YV: the worth that is due. -/
open PySem PySem.Spec PyProof.Rows L2
def dueD (rs : List RuleD) (w : Wd) (day : Int) : PyData := rs.foldl (fun d r => if r.w = w ∧ r.f ≤ day ∧ day ≤ r.l then r.d else d) (usualD w)
/-! YC: lists of data; what a book tells is of the word's kind. -/
open PySem PySem.Spec PyProof.Rows L2
/-- a value's truth (the hand layer's own word is an abbreviation) -/
def tTru (K : PySem.W.Frag) (ta : TE) : TT := fun σ H Q => ta σ H fun x H1 => ∃ k, TruV K x H1 k ∧ Q k H1
def rTru (K : PySem.W.Frag) (x : V) (H : Hp) (Q : Bool → Hp → Prop) : Prop := ∃ k, TruV K x H k ∧ Q k H
/-- x is True, x is False -/
def rIsB : R2 := fun x y H Q => ∃ b c, x = .bl b ∧ y = .bl c ∧ Q (.bl (decide (b = c))) H
/-- the worths of a book, by word -/
def comeB (rs : List RuleD) (w : Wd) (day : Int) : Bool := match tellsD rs w day with | .bool b => b | _ => true
def numI (rs : List RuleD) (w : Wd) (day : Int) : Int := match tellsD rs w day with | .int i => i | _ => 0
def soldB (rs : List RuleD) (day : Int) : Bool := !isNone (tellsD rs .price day)
/-! YBk: books that stand somewhere, days from one to another. -/
open PySem PySem.Spec PyProof.Rows L2
theorem days_mem {c g n : Int} (h : n ∈ days c g) : c ≤ n ∧ n < g := by
  unfold days at h
  obtain ⟨i, hi, rfl⟩ := List.mem_map.mp h
  have := List.mem_range.mp hi
  omega
theorem mem_days {c g n : Int} : n ∈ days c g ↔ c ≤ n ∧ n < g := by
  refine ⟨days_mem, fun h => ?_⟩
  unfold days
  exact List.mem_map.mpr ⟨(n - c).toNat, List.mem_range.mpr (by omega), by omega⟩
/-- a book stands at v -/
def BkAt (K : PySem.W.Frag) (H : Hp) (v : V) (rs : List RuleD) : Prop := ∃ F, BookAt K H F v rs
def GoodB (bs : List (List RuleD)) : Prop := ∀ rs ∈ bs, ∀ r ∈ rs, RuleD.good r
def StayB (c g : Int) : Prop := 0 ≤ c ∧ c < g ∧ g ≤ c + 14 ∧ g ≤ 1000000
theorem while_m {c : TT} {tb : TS} {D : Ends} {σ : L2.St} {H : Hp} (W : Nat → L2.St → Hp → Prop) {m0 : Nat} (h0 : W m0 σ H)
    (hs : ∀ m σ H, W m σ H → c σ H fun b H1 => if b = true then tb { D with nx := fun σ' H' => ∃ m', m' < m ∧ W m' σ' H', ct := fun σ' H' => ∃ m', m' < m ∧ W m' σ' H', bk := D.nx } σ H1 else D.nx σ H1)
    (mono : ∀ σ H Q Q', (∀ b H1, Q b H1 → Q' b H1) → c σ H Q → c σ H Q') : tWhile c tb D σ H := by
  refine ⟨W, ⟨m0, h0⟩, fun m σ H w => ?_⟩
  refine mono σ H _ _ (fun b H1 q => ?_) (hs m σ H w)
  cases b with
  | true => exact ⟨_, fun _ _ h => h, q⟩
  | false => exact q
/-! YTs: tables of sets, larger ones too: each slot is met. -/
open PySem PySem.Spec PyProof.Rows L2
/-- the masks that come, to 1228 things -/
def MaskW (m : Nat) : Prop := m = 7 ∨ m = 31 ∨ m = 127 ∨ m = 511 ∨ m = 2047
/-- the slots of a round as bits; and where it ends -/
def orb (m : Nat) : Nat → Nat → Nat → Nat × Nat
  | 0, x, acc => (x, acc)
  | k + 1, x, acc => orb m k ((x * 5 + 1) % (m + 1)) (acc ||| 2 ^ x)
theorem orb_fst (m : Nat) : ∀ (k i acc : Nat), (orb m k (lcgN m i) acc).1 = lcgN m (i + k)
  | 0, i, acc => rfl
  | k + 1, i, acc => by
    show (orb m k (lcgN m (i + 1)) (acc ||| 2 ^ lcgN m i)).1 = _
    rw [orb_fst m k (i + 1)]
    congr 1
    omega
theorem orb_snd (m : Nat) : ∀ (k i acc j : Nat), (orb m k (lcgN m i) acc).2.testBit j = true → acc.testBit j = true ∨ ∃ b, b < k ∧ lcgN m (i + b) = j
  | 0, i, acc, j, h => .inl h
  | k + 1, i, acc, j, h => by
    have h : (orb m k (lcgN m (i + 1)) (acc ||| 2 ^ lcgN m i)).2.testBit j = true := h
    rcases orb_snd m k (i + 1) _ j h with h | ⟨b, hb, e⟩
    · rw [Nat.testBit_or, Bool.or_eq_true] at h
      rcases h with h | h
      · exact .inl h
      · rw [Nat.testBit_two_pow, decide_eq_true_eq] at h
        exact .inr ⟨0, by omega, h⟩
    · exact .inr ⟨b + 1, by omega, by rw [← e]; congr 1; omega⟩
theorem orb_ok {m : Nat} (hm : MaskW m) : orb m (m + 1) 0 0 = (0, 2 ^ (m + 1) - 1) := by
  rcases hm with rfl | rfl | rfl | rfl | rfl
  · decide +kernel
  · decide +kernel
  · decide +kernel
  · decide +kernel
  · decide +kernel
theorem lcgW_all {m : Nat} (hm : MaskW m) {j : Nat} (hj : j ≤ m) : ∃ b, b ≤ m ∧ lcgN m b = j := by
  have h : (orb m (m + 1) (lcgN m 0) 0).2.testBit j = true := by
    show (orb m (m + 1) 0 0).2.testBit j = true
    rw [orb_ok hm, Nat.testBit_two_pow_sub_one, decide_eq_true_eq]
    omega
  rcases orb_snd m (m + 1) 0 0 j h with h | ⟨b, hb, e⟩
  · rw [Nat.zero_testBit] at h; cases h
  · exact ⟨b, by omega, by rw [← e]; congr 1; omega⟩
theorem lcgW_round {m : Nat} (hm : MaskW m) : lcgN m (m + 1) = 0 := by
  have h := orb_fst m (m + 1) 0 0
  rw [show lcgN m 0 = 0 from rfl, orb_ok hm, Nat.zero_add] at h
  exact h.symm
theorem lcgWN_mod {m : Nat} (hm : MaskW m) : ∀ k, lcgN m (m + 1 + k) = lcgN m k
  | 0 => lcgW_round hm
  | k + 1 => by
    show (lcgN m (m + 1 + k) * 5 + 1) % (m + 1) = (lcgN m k * 5 + 1) % (m + 1)
    rw [lcgWN_mod hm k]
/-- from anywhere each slot is met within a round -/
theorem lcgWI_all {m : Nat} (hm : MaskW m) {i j : Nat} (hi : i ≤ m) (hj : j ≤ m) : ∃ k, k ≤ m ∧ lcgI m i k = j := by
  obtain ⟨a, ha, ea⟩ := lcgW_all hm hi
  obtain ⟨b, hb, eb⟩ := lcgW_all hm hj
  rcases Nat.lt_or_ge b a with c | c
  · refine ⟨m + 1 + b - a, by omega, ?_⟩
    rw [← ea, lcgN_add, show a + (m + 1 + b - a) = m + 1 + b by omega, lcgWN_mod hm, eb]
  · refine ⟨b - a, by omega, ?_⟩
    rw [← ea, lcgN_add, show a + (b - a) = b by omega, eb]
/-- each slot is met within the search's bound -/
theorem nthW_meets {m : Nat} (hm : MaskW m) (h : Int) {j : Nat} (hj : j ≤ m) : ∃ k, k < 10 * SetTable.turns m ∧ way m h k = j := by
  obtain ⟨n, hn, e⟩ := lcgWI_all hm (runI_le m (SetTable.bits h) 12) hj
  obtain ⟨k, hk, e2⟩ := run_nth m (SetTable.bits h) (12 + n)
  refine ⟨k, by unfold SetTable.turns; omega, ?_⟩
  show (nth m (runAt m (SetTable.bits h % (m + 1)) (SetTable.bits h)) k).j = j
  rw [e2, runI_tail (bits_lt h)]
  exact e
/-- laying anew finds the first free slot of a way -/
theorem freeW {m : Nat} (hm : MaskW m) (ow : Array (Option Nat)) (h : Int) {j : Nat} (hj : j ≤ m) (hf : oAt ow j = none) :
    ∃ K, SetTable.layClean.free m ow (SetTable.turns m) (SetTable.bits h % (m + 1)) (SetTable.bits h) = some (way m h K) ∧ oAt ow (way m h K) = none ∧ ∀ k, k < K → oAt ow (way m h k) ≠ none := by
  obtain ⟨n, hn, e⟩ := lcgWI_all hm (runI_le m (SetTable.bits h) 12) hj
  have at_ : way m h (off m (SetTable.bits h % (m + 1)) (SetTable.bits h) (12 + n)) = j := by
    unfold way
    rw [nth_off, itL_run, runI_tail (bits_lt h)]
    exact e
  obtain ⟨K, le, free, occ⟩ := st_least (p := fun k => oAt ow (way m h k) = none) _ (show oAt ow (way m h (off m (SetTable.bits h % (m + 1)) (SetTable.bits h) (12 + n))) = none by rw [at_]; exact hf)
  refine ⟨K, free_spec m ow _ (12 + n) _ _ K (by unfold SetTable.turns; omega) le (fun k hk => ?_) ?_, free, occ⟩
  · rw [← Option.not_isSome, Bool.not_eq_false', Option.isSome_iff_ne_none]
    exact occ k hk
  · exact Option.isNone_iff_eq_none.mpr free
/-- one more laid -/
theorem ownW_step {m : Nat} (hm : MaskW m) {hs : List Int} {ow : Array (Option Nat)} (W : Own m hs ow) (hl : hs.length ≤ m) (h : Int) :
    ∃ j, SetTable.layClean.free m ow (SetTable.turns m) (SetTable.bits h % (m + 1)) (SetTable.bits h) = some j ∧ Own m (hs ++ [h]) (ow.setIfInBounds j (some hs.length)) := by
  obtain ⟨ps, pl, pin⟩ := W.ps
  obtain ⟨z, hz, nz⟩ := st_missing ps (m + 1) (by omega)
  have fz : oAt ow z = none := Decidable.byContradiction fun c => nz (pin z (by omega) c)
  obtain ⟨K, got, free, occ⟩ := freeW hm ow h (Nat.le_of_lt_succ hz) fz
  obtain ⟨j, ej⟩ : ∃ j, j = way m h K := ⟨_, rfl⟩
  have jm : j ≤ m := by
    rw [ej]
    have hi : SetTable.bits h % (m + 1) ≤ m := Nat.le_of_lt_succ (Nat.mod_lt _ (Nat.succ_pos _))
    have := nth_in (m := m) K (runAt m (SetTable.bits h % (m + 1)) (SetTable.bits h)) (by
      have := runEnd_bd hi
      show SetTable.bits h % (m + 1) + (SetTable.runEnd m (SetTable.bits h % (m + 1)) - SetTable.bits h % (m + 1)) ≤ m
      omega)
    show (nth m (runAt m (SetTable.bits h % (m + 1)) (SetTable.bits h)) K).j ≤ m
    omega
  rw [← ej] at got free
  have self := oAt_set_self (some hs.length) (show j < ow.size by rw [W.sz]; omega)
  have kept : ∀ {i}, i ≠ j → oAt (ow.setIfInBounds j (some hs.length)) i = oAt ow i := fun n => oAt_set_ne _ n
  have more : ∀ {i}, oAt ow i ≠ none → oAt (ow.setIfInBounds j (some hs.length)) i ≠ none := fun {i} hi => by
    by_cases c : i = j
    · rw [c, self]; exact Option.some_ne_none _
    · rw [kept c]; exact hi
  refine ⟨j, got, ⟨by rw [Array.size_setIfInBounds, W.sz], fun i k hi e => ?_, fun k hk => ?_, j :: ps, by rw [List.length_cons, pl, List.length_append, List.length_singleton], fun i hi e => ?_⟩⟩
  · by_cases c : i = j
    · rw [c, self] at e
      obtain rfl := Option.some.inj e
      exact ⟨h, K, by simp, by rw [c, ej], fun k' hk' => more (occ k' hk')⟩
    · rw [kept c] at e
      obtain ⟨h', K', a, b, d⟩ := W.at_ i k hi e
      exact ⟨h', K', by rw [List.getElem?_append_left (List.getElem?_eq_some_iff.mp a).1, a], b, fun k' hk' => more (d k' hk')⟩
  · by_cases c : k = hs.length
    · exact ⟨j, jm, by rw [self, c]⟩
    · obtain ⟨i, hi, e⟩ := W.all k (by simp at hk; omega)
      exact ⟨i, hi, by rw [kept (fun z => by rw [z, free] at e; cases e), e]⟩
  · by_cases c : i = j
    · rw [c]; exact List.mem_cons_self
    · rw [kept c] at e
      exact List.mem_cons_of_mem _ (pin i hi e)
theorem foldW {m : Nat} (hm : MaskW m) : ∀ (rest hs : List Int) (ow : Array (Option Nat)), Own m hs ow → hs.length + rest.length ≤ m →
    ∃ ow', rest.foldl (stepF m) (some (ow, hs.length)) = some (ow', (hs ++ rest).length) ∧ Own m (hs ++ rest) ow'
  | [], hs, ow, W, _ => ⟨ow, by simp, by simpa using W⟩
  | h :: rest, hs, ow, W, l => by
    obtain ⟨j, e, W1⟩ := ownW_step hm W (by simp at l; omega) h
    obtain ⟨ow', f, W2⟩ := foldW hm rest (hs ++ [h]) _ W1 (by simp at l ⊢; omega)
    refine ⟨ow', ?_, by simpa using W2⟩
    rw [List.foldl_cons, stepF_some e]
    simpa using f
theorem layW {m : Nat} (hm : MaskW m) {hs : Array Int} (hn : hs.size ≤ m) : ∃ ow, SetTable.layClean m hs = some ow ∧ Own m hs.toList ow := by
  obtain ⟨ow, f, W⟩ := foldW hm hs.toList [] _ (Own.init m) (by simpa using hn)
  have f : hs.toList.foldl (stepF m) (some (Array.replicate (m + 1) none, 0)) = some (ow, ([] ++ hs.toList).length) := f
  exact ⟨ow, by rw [layClean_eq, f]; rfl, by simpa using W⟩
theorem wayW_le {m : Nat} {h : Int} {K : Nat} : way m h K ≤ m := by
  have hi : SetTable.bits h % (m + 1) ≤ m := Nat.le_of_lt_succ (Nat.mod_lt _ (Nat.succ_pos _))
  have := nth_in (m := m) K (runAt m (SetTable.bits h % (m + 1)) (SetTable.bits h)) (by
    have := runEnd_bd hi
    show SetTable.bits h % (m + 1) + (SetTable.runEnd m (SetTable.bits h % (m + 1)) - SetTable.bits h % (m + 1)) ≤ m
    omega)
  show (nth m (runAt m (SetTable.bits h % (m + 1)) (SetTable.bits h)) K).j ≤ m
  omega
/-- a table, larger ones too, in which each thing is found again by its hash -/
structure TabW (t : SetTable) (hs : List Int) : Prop where
  ris : Ris t.place.toList
  dm : t.dummies = #[]
  sz : t.place.size = hs.length
  mok : MaskW t.mask
  bd : ∀ x ∈ t.place.toList, x ≤ t.mask
  reach : ∀ (i : Nat) (h : Int) (j : Nat), hs[i]? = some h → t.place.toList[i]? = some j → ∃ k, way t.mask h k = j ∧ ∀ k', k' < k → way t.mask h k' ∈ t.place.toList
/-- the slots that are taken, as many as there are things -/
theorem live_len {m : Nat} {hs : List Int} {ow : Array (Option Nat)} (W : Own m hs ow) : (liveOf m ow).length = hs.length := by
  have up : Ris ((liveOf m ow).map (·.1)) := (ris_live (fun j => ow.getD j none) (List.range (m + 1)) (by unfold Ris; exact List.pairwise_lt_range)).1
  obtain ⟨ps, pl, pin⟩ := W.ps
  refine Nat.le_antisymm ?_ ?_
  · rw [← pl, ← List.length_map (f := fun q : Nat × Nat => q.1)]
    refine nat_nodup_len _ ps (List.Pairwise.imp (fun h => Nat.ne_of_lt h) up) fun x hx => ?_
    obtain ⟨⟨y, k⟩, hq, rfl⟩ := List.mem_map.mp hx
    obtain ⟨a, b⟩ := (mem_live W.sz).1 hq
    exact pin y a (by rw [b]; exact Option.some_ne_none _)
  · have := nat_nodup_len (List.range hs.length) ((liveOf m ow).map (·.2)) List.nodup_range fun k hk => by
      obtain ⟨j, a, b⟩ := W.all k (List.mem_range.mp hk)
      exact List.mem_map.mpr ⟨(j, k), (mem_live W.sz).2 ⟨a, b⟩, rfl⟩
    simpa using this
theorem relaidW (t : SetTable) {hs : Array Int} {wanted M : Nat} (hw : SetTable.sizeAbove wanted - 1 = M) (hM : MaskW M) (hn : hs.size ≤ M) :
    ∃ t' order, t.relaid hs wanted = some (t', order) ∧ order.toList.Perm (List.range hs.size) ∧ TabW t' (order.toList.map fun i => hs.getD i 0) ∧ t'.mask = M ∧ t'.led = t.led ∧ t'.plain = t.plain ∧ t'.dummies = #[] := by
  obtain ⟨ow, e, W⟩ := layW hM hn
  have ln : (liveOf M ow).length = hs.size := live_len W
  have ris := ris_live (fun j => ow.getD j none) (List.range (M + 1)) (by unfold Ris; exact List.pairwise_lt_range)
  have r1 : Ris ((liveOf M ow).map (·.1)) := ris.1
  have r2 : ∀ x ∈ (liveOf M ow).map (·.1), x ∈ List.range (M + 1) := ris.2
  refine ⟨tabOf t M ow, ((liveOf M ow).map (·.2)).toArray, by rw [relaid_eq, hw, e]; rfl, perm_range _ _ (by simpa using ln) fun k hk => ?_, ⟨r1, rfl, ?_, hM, fun x hx => ?_, fun i h j h1 h2 => ?_⟩, rfl, rfl, rfl, rfl⟩
  · obtain ⟨j, a, b⟩ := W.all k (by simpa using hk)
    exact List.mem_map.mpr ⟨(j, k), (mem_live W.sz).2 ⟨a, b⟩, rfl⟩
  · show ((liveOf M ow).map (·.1)).toArray.size = _
    simp
  · exact Nat.le_of_lt_succ (List.mem_range.mp (r2 x hx))
  · replace h1 : (((liveOf M ow).map (·.2)).map fun i => hs.getD i 0)[i]? = some h := h1
    replace h2 : ((liveOf M ow).map (·.1))[i]? = some j := h2
    rw [List.getElem?_map] at h2
    obtain ⟨⟨y, k⟩, hq, rfl⟩ := Option.map_eq_some_iff.mp h2
    rw [List.getElem?_map, List.getElem?_map, hq] at h1
    have h1 : hs.getD k 0 = h := Option.some.inj h1
    obtain ⟨a, b⟩ := (mem_live W.sz).1 (List.mem_of_getElem? hq)
    obtain ⟨h0, K, c, d, f⟩ := W.at_ y k a b
    have e0 : h0 = h := by rw [← h1, Array.getD_eq_getD_getElem?, ← Array.getElem?_toList, c]; rfl
    subst e0
    refine ⟨K, d, fun k' hk' => ?_⟩
    show way M h0 k' ∈ (liveOf M ow).map (·.1)
    obtain ⟨q, hq'⟩ := Option.ne_none_iff_exists'.mp (f k' hk')
    exact List.mem_map.mpr ⟨(way M h0 k', q), (mem_live W.sz).2 ⟨wayW_le, hq'⟩, rfl⟩
/-- the first empty slot on a hash's way -/
theorem TabW.first {t : SetTable} {hs : List Int} (T : TabW t hs) (hl : hs.length ≤ t.mask) (h : Int) : ∃ K, K < 10 * SetTable.turns t.mask ∧ way t.mask h K ∉ t.place.toList ∧ ∀ k, k < K → way t.mask h k ∈ t.place.toList := by
  obtain ⟨j, hj, nj⟩ := st_missing t.place.toList (t.mask + 1) (by rw [Array.length_toList, T.sz]; omega)
  obtain ⟨k, hk, e⟩ := nthW_meets T.mok h (Nat.le_of_lt_succ hj)
  obtain ⟨K, a, b, c⟩ := st_least (p := fun k => way t.mask h k ∉ t.place.toList) k (show way t.mask h k ∉ t.place.toList by rw [e]; exact nj)
  exact ⟨K, by omega, b, fun k' hk' => Decidable.byContradiction (c k' hk')⟩
/-- what has the hash stands ahead of that slot -/
theorem TabW.before {t : SetTable} {hs : List Int} (T : TabW t hs) {h : Int} {K i j : Nat} (hK : way t.mask h K ∉ t.place.toList) (hi : hs[i]? = some h) (hj : t.place.toList[i]? = some j) : ∃ k, k < K ∧ way t.mask h k = j := by
  obtain ⟨k, e, b⟩ := T.reach i h j hi hj
  refine ⟨k, ?_, e⟩
  by_cases c : k < K
  · exact c
  · exfalso
    by_cases d : k = K
    · rw [← d, e] at hK
      exact hK (List.mem_of_getElem? hj)
    · exact hK (b K (by omega))
/-- a thing put into the first empty slot of its way -/
theorem TabW.put {t : SetTable} {hs : List Int} (T : TabW t hs) {h : Int} {K : Nat} (hK : way t.mask h K ∉ t.place.toList) (hb : ∀ k, k < K → way t.mask h k ∈ t.place.toList) :
    SetTable.below t.place (way t.mask h K) ≤ hs.length ∧ TabW (t.put (way t.mask h K)).1 (hs.take (SetTable.below t.place (way t.mask h K)) ++ h :: hs.drop (SetTable.below t.place (way t.mask h K))) ∧ (t.put (way t.mask h K)).1.fill = hs.length + 1 := by
  have jm : way t.mask h K ≤ t.mask := wayW_le
  obtain ⟨j, ej⟩ : ∃ j, j = way t.mask h K := ⟨_, rfl⟩
  rw [← ej] at hK jm ⊢
  have cut : SetTable.below t.place j ≤ t.place.size := (below_cut T.ris j).1
  have cl : SetTable.below t.place j ≤ t.place.toList.length := by rw [Array.length_toList]; exact cut
  have ch : SetTable.below t.place j ≤ hs.length := by rw [← T.sz]; exact cut
  have pl := put_place t j
  have ps : (t.put j).1.place.size = hs.length + 1 := by rw [← Array.length_toList, pl, len_ins _ cl, Array.length_toList, T.sz]
  have old : ∀ {x}, x ∈ t.place.toList → x ∈ (t.put j).1.place.toList := fun hx => by rw [pl]; exact mem_ins.2 (.inr hx)
  refine ⟨ch, ⟨ris_insert T.ris fun e => hK (List.mem_of_getElem? (by rw [Array.getElem?_toList]; exact e)), put_dm T.dm j, by rw [len_ins _ ch]; exact ps, T.mok, fun x hx => ?_, fun i h' j' h1 h2 => ?_⟩, ?_⟩
  · rw [pl] at hx
    rcases mem_ins.1 hx with rfl | hx
    · exact jm
    · exact T.bd x hx
  · rw [tins_get hs ch] at h1
    rw [pl, tins_get _ cl] at h2
    have ok : ∀ i, hs[i]? = some h' → t.place.toList[i]? = some j' → ∃ k, way t.mask h' k = j' ∧ ∀ k', k' < k → way t.mask h' k' ∈ (t.put j).1.place.toList := fun i a b => by
      obtain ⟨k, e, z⟩ := T.reach i h' j' a b
      exact ⟨k, e, fun k' hk' => old (z k' hk')⟩
    show ∃ k, way t.mask h' k = j' ∧ ∀ k', k' < k → way t.mask h' k' ∈ (t.put j).1.place.toList
    split at h1
    · rename_i c
      rw [if_pos c] at h2
      exact ok i h1 h2
    · rename_i c
      rw [if_neg c] at h2
      split at h1
      · rename_i d
        rw [if_pos d] at h2
        cases h1
        cases h2
        exact ⟨K, ej.symm, fun k' hk' => old (hb k' hk')⟩
      · rename_i d
        rw [if_neg d] at h2
        exact ok (i - 1) h1 h2
  · show (t.put j).1.place.size + (t.put j).1.dummies.size = hs.length + 1
    rw [ps, put_dm T.dm j]
    rfl
theorem sizeW {n : Nat} (h : n = 5 ∨ n = 19 ∨ n = 77 ∨ n = 307) : SetTable.sizeAbove (SetTable.grown n) = if n = 5 then 32 else if n = 19 then 128 else if n = 77 then 512 else 2048 := by
  rcases h with rfl | rfl | rfl | rfl <;> decide +kernel
/-- a set of tuples of ints, larger ones too -/
structure SetW (P : Program) (w : World) (h : Heap) (a : Addr) (L : List (Addr × List Int)) (es : Array (Int × Value)) (ep : Nat) (t : SetTable) : Prop where
  ob : ∃ o, h.get? a = some o ∧ o.ExactSet ∧ o.data = .set es ep t
  rows : es.toList = rowsOf P w L
  tab : TabW t (L.map fun p => thash P w p.2)
  nd : (L.map (·.2)).Nodup
  tup : ∀ p ∈ L, IsT P w h p.2 p.1
  plain : t.plain = true
  led : w.params.followText "set-order" = true ∨ t.led = true
  room : L.length * 5 < t.mask * 3
section
variable {P : Program} {w : World} {h : Heap} {a : Addr} {L : List (Addr × List Int)} {es : Array (Int × Value)} {ep : Nat} {t : SetTable}
theorem SetW.size (R : SetW P w h a L es ep t) : es.size = L.length := by
  rw [← Array.length_toList, R.rows]
  unfold rowsOf
  rw [List.length_map]
theorem SetW.fits (R : SetW P w h a L es ep t) : t.fits es.size = true := by
  have a := R.tab.sz
  have b := R.size
  have c := R.room
  rw [List.length_map] at a
  unfold SetTable.fits SetTable.fill
  rw [R.tab.dm, Bool.and_eq_true, beq_iff_eq, decide_eq_true_eq]
  refine ⟨by omega, ?_⟩
  show t.place.size + 0 ≤ t.mask
  omega
theorem SetW.entry (R : SetW P w h a L es ep t) {i : Nat} {p : Addr × List Int} (hp : L[i]? = some p) : es[i]? = some (thash P w p.2, Value.ref p.1) := by
  rw [← Array.getElem?_toList, R.rows]
  unfold rowsOf
  rw [List.getElem?_map, hp]
  rfl
theorem maskW_odd {m : Nat} (h : MaskW m) : m % 2 = 1 := by
  rcases h with rfl | rfl | rfl | rfl | rfl <;> rfl
theorem SetW.gw (R : SetW P w h a L es ep t) : ¬ t.gaveWay = true := by
  unfold SetTable.gaveWay
  rw [maskW_odd R.tab.mok]
  decide
end
/-! YTt: larger sets of tuples of ints: search, add, set(list), its length. -/
open PySem PySem.Spec PyProof.Rows L2
section
variable {P : Program} {w : World} {A : Around} {E : Value → Shared → Prop} {s : Shared}
variable {a : Addr} {L : List (Addr × List Int)} {es : Array (Int × Value)} {ep : Nat} {t : SetTable}
/-- the c-th place on a hash's way -/
abbrev stop (m : Nat) (v : Int) (c : Nat) : SetTable.Probe := nth m (runAt m (SetTable.bits v % (m + 1)) (SetTable.bits v)) c
theorem adv_pure {m : Nat} {p : SetTable.Probe} (h : p.dummy = none) : (adv m p).dummy = none := by
  unfold adv
  split
  · exact h
  · exact h
theorem nth_pure {m : Nat} : ∀ (n : Nat) (p : SetTable.Probe), p.dummy = none → (nth m p n).dummy = none
  | 0, _, h => h
  | n + 1, _, h => nth_pure n _ (adv_pure h)
theorem stop_add (m : Nat) (v : Int) (c q : Nat) : nth m (stop m v c) q = stop m v (c + q) := (nth_add m c _ q).symm
theorem stop_j (m : Nat) (v : Int) (c q : Nat) : (nth m (stop m v c) q).j = way m v (c + q) := by rw [stop_add]
theorem seekW (R : SetW P w s.heap a L es ep t) {x : Addr} {k : List Int} {v : Int} (ev : v = thash P w k) (hx : IsT P w s.heap k x) (hu : A.units < cLine) {K : Nat} (big : K < 10 * SetTable.turns t.mask)
    (free : way t.mask v K ∉ t.place.toList) (occ : ∀ c, c < K → way t.mask v c ∈ t.place.toList) {Q : SetFound → Shared → Prop}
    (yes : k ∈ L.map (·.2) → Q (.there none) s) (no : k ∉ L.map (·.2) → Q (.free (way t.mask v K) false) s) :
    ∀ (f c : Nat) (st : Option SetTable.Probe), st.getD (t.probeStart v) = stop t.mask v c → c ≤ K → K - c < f →
      (∀ (i : Nat) p, L[i]? = some p → p.2 = k → ∃ d, c ≤ d ∧ d < K ∧ t.place.toList[i]? = some (way t.mask v d)) →
      wpAny (model P w) A (setSearchFrom a (.ref x) v true f st) Q E s
  | 0, c, st, _, _, z, _ => absurd z (Nat.not_lt_zero _)
  | f + 1, c, st, at_, le, fu, left => by
    obtain ⟨o, ho, hex, hd⟩ := R.ob
    rw [setSearchFrom_succ]
    refine wpAny_bind (wpAny_setState_of ho hd R.fits ?_)
    dsimp only
    refine wp_if_neg R.gw ?_
    try refine wpAny_bind (wpAny_pure ?_)
    have hv : ∀ (i : Nat) p, L[i]? = some p → (es[i]?.map (·.1)).getD 0 = thash P w p.2 := fun i p hp => by rw [R.entry hp]; rfl
    have met := go_spec t R.tab.ris R.tab.dm (fun i => (es[i]?.map (·.1)).getD 0) v (10 * SetTable.turns t.mask) (K - c) (stop t.mask v c) (nth_pure c _ rfl) (by omega)
      (fun q hq => by rw [stop_j]; exact occ _ (by omega)) (by rw [stop_j, Nat.add_sub_cancel' le]; exact free)
    rcases met with ⟨q, i, lq, hi, same_h, none_b, pr⟩ | ⟨none_b, pr⟩
    · rw [stop_j, stop_add] at pr
      rw [stop_j] at hi
      have pr2 : t.probe (fun i => (es[i]?.map (·.1)).getD 0) v (st.getD (t.probeStart v)) = some (.candidate (way t.mask v (c + q)) i (stop t.mask v (c + (q + 1)))) := by rw [at_]; exact pr
      rw [pr2]
      dsimp only
      have il : i < L.length := by
        have := (List.getElem?_eq_some_iff.mp hi).1
        have z := R.tab.sz
        rw [List.length_map] at z
        rw [Array.length_toList, z] at this
        exact this
      obtain ⟨p, hp⟩ : ∃ p, L[i]? = some p := ⟨_, List.getElem?_eq_getElem il⟩
      have pm : p ∈ L := List.mem_of_getElem? hp
      have live : t.slot (way t.mask v (c + q)) = .live i := slot_live R.tab.ris hi
      have rest : wpAny (model P w) A (searchRest a (.ref x) v true f es t (way t.mask v (c + q)) i (stop t.mask v (c + (q + 1)))) Q E s := by
        unfold searchRest
        rw [R.entry hp]
        dsimp only
        refine wpAny_bind (wpAny_holding (wpAny_eqBool_tuple hu (R.tup p pm) hx ?_))
        refine wpAny_bind (wpAny_setState_of ho hd R.fits ?_)
        dsimp only
        by_cases eq : p.2 = k
        · refine wp_if_pos (by simp [eq]) (wpAny_pure (yes ?_))
          exact eq ▸ List.mem_map_of_mem pm
        · refine wp_if_neg (by simp [eq]) ?_
          try refine wpAny_bind (wpAny_pure ?_)
          rw [sameMem]
          dsimp only
          simp only [if_true, live, R.entry hp]
          refine wpAny_bind (wpAny_isSame_ref_self (wpAny_bind (wpAny_pure ?_)))
          simp only [if_true]
          refine wp_if_neg (by simp [eq]) ?_
          refine seekW R ev hx hu big free occ yes no f (c + (q + 1)) _ rfl (by omega) (by omega) fun i0 p0 h0 k0 => ?_
          obtain ⟨d, d1, d2, d3⟩ := left i0 p0 h0 k0
          refine ⟨d, ?_, d2, d3⟩
          by_cases far : c + q < d
          · omega
          · exfalso
            by_cases here : d = c + q
            · rw [here] at d3
              have s0 := slot_live R.tab.ris d3
              rw [live] at s0
              injection s0 with s0
              rw [← s0, hp] at h0
              cases h0
              exact eq k0
            · refine none_b (d - c) i0 (by omega) (by rw [stop_j, Nat.add_sub_cancel' d1]; exact d3) ?_
              rw [hv i0 p0 h0, k0, ev]
      by_cases hl : t.led = true
      · refine wp_if_neg (by simp [hl]) ?_
        try refine wpAny_bind (wpAny_pure ?_)
        exact rest
      · refine wp_if_pos (by simp [hl]) ?_
        refine wpAny_bind (seen_tup hx (fun y hy => ?_) ?_)
        · obtain ⟨e, he, rfl⟩ := List.mem_map.mp hy
          have he : e ∈ es.toList := by
            have := (show e ∈ es ∧ e.1 = v by simpa using he).1
            simpa using this
          rw [R.rows] at he
          obtain ⟨p2, hp2, rfl⟩ := List.mem_map.mp he
          exact ⟨p2.2, p2.1, rfl, R.tup p2 hp2⟩
        · refine wp_if_neg (by decide) ?_
          try refine wpAny_bind (wpAny_pure ?_)
          exact rest
    · rw [stop_j, Nat.add_sub_cancel' le] at pr
      have pr2 : t.probe (fun i => (es[i]?.map (·.1)).getD 0) v (st.getD (t.probeStart v)) = some (.empty (way t.mask v K) none) := by rw [at_]; exact pr
      rw [pr2]
      dsimp only
      refine wpAny_pure (no fun hm => ?_)
      obtain ⟨p0, h0, k0⟩ := List.mem_map.mp hm
      obtain ⟨i0, l0, e0⟩ := List.getElem_of_mem h0
      have h0 : L[i0]? = some p0 := by rw [List.getElem?_eq_getElem l0, e0]
      obtain ⟨d, d1, d2, d3⟩ := left i0 p0 h0 k0
      refine none_b (d - c) i0 (by omega) (by rw [stop_j, Nat.add_sub_cancel' d1]; exact d3) ?_
      rw [hv i0 p0 h0, k0, ev]
theorem searchW (R : SetW P w s.heap a L es ep t) {x : Addr} {k : List Int} (hx : IsT P w s.heap k x) (hu : A.units < cLine) {Q : SetFound → Shared → Prop}
    (yes : k ∈ L.map (·.2) → Q (.there none) s)
    (no : ∀ K, k ∉ L.map (·.2) → way t.mask (thash P w k) K ∉ t.place.toList → (∀ c, c < K → way t.mask (thash P w k) c ∈ t.place.toList) → Q (.free (way t.mask (thash P w k) K) false) s) :
    wpAny (model P w) A (setSearch a (.ref x) (thash P w k) true) Q E s := by
  have r := R.room
  obtain ⟨K, big, free, occ⟩ := R.tab.first (show (L.map fun p => thash P w p.2).length ≤ t.mask by rw [List.length_map]; omega) (thash P w k)
  have lim : 10 * SetTable.turns t.mask ≤ 30000 := by
    unfold SetTable.turns
    have m := R.tab.mok
    unfold MaskW at m
    omega
  unfold setSearch
  refine seekW R rfl hx hu big free occ yes (fun n => no K n free occ) 100000 0 none rfl (Nat.zero_le _) (by omega) fun i p hp ek => ?_
  have hl : i < t.place.toList.length := by
    have z := R.tab.sz
    rw [List.length_map] at z
    rw [Array.length_toList, z]
    exact (List.getElem?_eq_some_iff.mp hp).1
  have hj : t.place.toList[i]? = some t.place.toList[i] := List.getElem?_eq_getElem hl
  obtain ⟨d, d1, d2⟩ := R.tab.before free (show (L.map fun p => thash P w p.2)[i]? = some (thash P w k) by rw [List.getElem?_map, hp, ← ek]; rfl) hj
  exact ⟨d, Nat.zero_le _, d1, by rw [hj, d2]⟩
/-- laid anew -/
theorem relayW {o : Obj} (ho : s.heap.get? a = some o) (hex : o.ExactSet) (hd : o.data = .set es ep t) (rows : es.toList = rowsOf P w L) (sz : t.place.size = es.size) (dm : t.dummies = #[]) (fl : es.size ≤ t.mask)
    (nd : (L.map (·.2)).Nodup) (tup : ∀ p ∈ L, IsT P w s.heap p.2 p.1) (pl : t.plain = true) (ld : w.params.followText "set-order" = true ∨ t.led = true) {wanted M : Nat}
    (hw : SetTable.sizeAbove wanted - 1 = M) (hM : MaskW M) (lim : SetTable.sizeAbove wanted ≤ 2048) (hn : L.length * 5 < M * 3) {Q : Unit → Shared → Prop}
    (next : ∀ h' L' es' ep' t', Heap.SameBut a s.heap h' → SetW P w h' a L' es' ep' t' → L'.Perm L → Q () { s with heap := h' }) : wpAny (model P w) A (setRelay a wanted) Q E s := by
  have ln : es.size = L.length := by
    rw [← Array.length_toList, rows]
    simp [rowsOf]
  have fits : t.fits es.size = true := by
    unfold SetTable.fits SetTable.fill
    rw [dm, Bool.and_eq_true, beq_iff_eq, decide_eq_true_eq]
    exact ⟨sz, by simpa [sz] using fl⟩
  obtain ⟨t', order, e, pm, T, em, el, epl, ed⟩ := relaidW t (hs := es.map (·.1)) hw hM (by rw [Array.size_map]; omega)
  rw [Array.size_map, ln] at pm
  obtain ⟨L', r1, r2, r3⟩ := order_rows L es order rows pm
  rw [← r3] at T
  have n2 : (order.filterMap (es[·]?)).size = es.size := by
    rw [← Array.length_toList, r1, ln, ← r2.length_eq]
    simp [rowsOf]
  rw [setRelay_eq]
  refine wpAny_bind (wpAny_setState_of ho hd fits ?_)
  dsimp only
  have sl := sizeLine_eq
  refine wp_if_neg (by omega) ?_
  try refine wpAny_bind (wpAny_pure ?_)
  rw [e]
  dsimp only
  refine wpAny_bind ?_
  refine wp_if_neg (by simp [n2]) ?_
  try refine wpAny_bind (wpAny_pure ?_)
  refine wpAny_pure ?_
  dsimp only
  refine wpAny_storeSet_of ho hd ?_ (by have : L.length ≤ 2048 := by omega
                                        omega)
  have sb : Heap.SameBut a s.heap (s.heap.update a (Obj.putSet (order.filterMap (es[·]?)) t')) := Heap.SameBut.update ..
  exact next _ L' _ (ep + 1) t' sb ⟨⟨_, store_at ho hd, hex, rfl⟩, r1, T, (r2.map (·.2)).nodup_iff.mpr nd, fun p hp => isT_same (tup p (r2.mem_iff.mp hp)) ho hd sb, epl.trans pl, by rw [el]; exact ld, by rw [r2.length_eq, em]; exact hn⟩ r2
/-- set.add of a tuple -/
theorem addW (R : SetW P w s.heap a L es ep t) {x : Addr} {k : List Int} (hx : IsT P w s.heap k x) (hu : A.units < cLine) (lim : L.length < 1200) {Q : Bool → Shared → Prop}
    (next : ∀ b h' L' es' ep' t', Heap.SameBut a s.heap h' → SetW P w h' a L' es' ep' t' → (k ∈ L.map (·.2) → L' = L) → (k ∉ L.map (·.2) → L'.Perm ((x, k) :: L)) → Q b { s with heap := h' }) :
    wpAny (model P w) A (setAddHashed a (.ref x) (thash P w k)) Q E s := by
  obtain ⟨o, ho, hex, hd⟩ := R.ob
  have ln := R.size
  have room := R.room
  have sl := sizeLine_eq
  unfold setAddHashed
  refine wpAny_holding ?_
  rw [show (100000 : Nat) = 99999 + 1 from rfl, setAddHashedIn_succ]
  refine wpAny_bind (wpAny_setState_of ho hd R.fits ?_)
  dsimp only
  refine wp_if_neg (by simp [byScan, Value.scannable]) ?_
  try refine wpAny_bind (wpAny_pure ?_)
  refine wpAny_bind (searchW R hx hu (fun hm => ?_) fun K hm free occ => ?_)
  · dsimp only
    exact wpAny_pure (next false s.heap L es ep t (Heap.SameBut.refl a s.heap) R (fun _ => rfl) fun z => absurd hm z)
  · dsimp only
    refine wpAny_bind (wpAny_setState_of ho hd R.fits ?_)
    dsimp only
    obtain ⟨cut, T1, fill⟩ := R.tab.put free occ
    have em : (t.put (way t.mask (thash P w k) K)).1.mask = t.mask := rfl
    have pl1 : (t.put (way t.mask (thash P w k) K)).1.plain = true := R.plain
    have ld1 : w.params.followText "set-order" = true ∨ (t.put (way t.mask (thash P w k) K)).1.led = true := R.led
    have e2 : (t.put (way t.mask (thash P w k) K)).2 = SetTable.below t.place (way t.mask (thash P w k) K) := rfl
    rw [← e2] at cut T1
    generalize t.put (way t.mask (thash P w k) K) = pt at *
    obtain ⟨t1, p⟩ := pt
    dsimp only at *
    clear e2
    first
      | (refine wpAny_bind ?_; refine wp_if_pos pl1 ?_; refine hashBy_tup hx ?_)
      | refine wp_if_pos pl1 (wpAny_bind (hashBy_tup hx ?_))
    simp only [if_true]
    obtain ⟨L1, eL⟩ : ∃ L1, L1 = L.take p ++ (x, k) :: L.drop p := ⟨_, rfl⟩
    have pm : L1.Perm ((x, k) :: L) := by rw [eL]; exact put_perm L p (x, k)
    have l1 : L1.length = L.length + 1 := pm.length_eq
    have rows1 : (SetTable.insertAt es p (thash P w k, Value.ref x)).toList = rowsOf P w L1 := by rw [eL, rows_put, SetTable.toList_insertAt, R.rows]
    have T1 : TabW t1 (L1.map fun p => thash P w p.2) := by
      rw [eL, List.map_append, List.map_cons, List.map_take, List.map_drop]
      exact T1
    have nd1 : (L1.map (·.2)).Nodup := (pm.map (·.2)).nodup_iff.mpr (List.nodup_cons.mpr ⟨hm, R.nd⟩)
    clear eL
    generalize SetTable.insertAt es p (thash P w k, Value.ref x) = es1 at rows1 ⊢
    have n1 : es1.size = L.length + 1 := by
      rw [← Array.length_toList, rows1, ← l1]
      simp [rowsOf]
    refine wpAny_bind (wpAny_storeSet_of ho hd ?_ (by omega))
    have sb : Heap.SameBut a s.heap (s.heap.update a (Obj.putSet es1 t1)) := Heap.SameBut.update ..
    have ho1 := store_at (es' := es1) (t' := t1) ho hd
    generalize s.heap.update a (Obj.putSet es1 t1) = h1 at sb ho1 ⊢
    have tup1 : ∀ p ∈ L1, IsT P w h1 p.2 p.1 := fun q hq => by
      rcases List.mem_cons.mp (pm.mem_iff.mp hq) with rfl | hq
      · exact isT_same hx ho hd sb
      · exact isT_same (R.tup q hq) ho hd sb
    rw [List.length_map] at fill
    have full : t1.tooFull = decide (t.mask * 3 ≤ (L.length + 1) * 5) := by
      unfold SetTable.tooFull
      rw [fill, em]
    by_cases hf : t1.tooFull = true
    · first
        | (refine wpAny_bind ?_; refine wp_if_pos (by simp [hf]) ?_)
        | (refine wp_if_pos (by simp [hf]) ?_; refine wpAny_bind ?_)
      rw [full, decide_eq_true_eq] at hf
      have s1 : t1.place.size = es1.size := by rw [T1.sz, List.length_map, n1, l1]
      have lens : L.length + 1 = 5 ∨ L.length + 1 = 19 ∨ L.length + 1 = 77 ∨ L.length + 1 = 307 := by
        rcases R.tab.mok with m | m | m | m | m <;> rw [m] at room hf <;> omega
      have size := sizeW lens
      rw [ln]
      have go : ∀ M, SetTable.sizeAbove (SetTable.grown (L.length + 1)) = M + 1 → MaskW M → M ≤ 2047 → (L.length + 1) * 5 < M * 3 →
          wpAny (model P w) A (setRelay a (SetTable.grown (L.length + 1))) (fun _ s' => wpAny (model P w) A (pure true) Q E s') E { s with heap := h1 } := fun M z1 z2 z3 z4 =>
        relayW (s := { s with heap := h1 }) (L := L1) ho1 hex rfl rows1 s1 T1.dm (by rw [em, n1]; omega) nd1 tup1 pl1 ld1 (M := M) (by omega) z2 (by omega) (by rw [l1]; exact z4) fun h2 L2 es2 ep2 t2 sb2 R2 pm2 =>
          wpAny_pure (next true h2 L2 es2 ep2 t2 (sb.trans sb2) R2 (fun z => absurd z hm) fun _ => pm2.trans pm)
      rcases lens with l | l | l | l
      · exact go 31 (by rw [size, l]; rfl) (by unfold MaskW; omega) (by omega) (by omega)
      · exact go 127 (by rw [size, l]; rfl) (by unfold MaskW; omega) (by omega) (by omega)
      · exact go 511 (by rw [size, l]; rfl) (by unfold MaskW; omega) (by omega) (by omega)
      · exact go 2047 (by rw [size, l]; rfl) (by unfold MaskW; omega) (by omega) (by omega)
    · first
        | refine wp_if_neg (by simp [hf]) ?_
        | (refine wpAny_bind ?_; refine wp_if_neg (by simp [hf]) ?_; refine wpAny_pure ?_)
      rw [full, decide_eq_true_eq] at hf
      exact wpAny_pure (next true h1 L1 es1 (ep + 1) t1 sb ⟨⟨_, ho1, hex, rfl⟩, rows1, T1, nd1, tup1, pl1, ld1, by rw [l1, em]; omega⟩ (fun z => absurd z hm) fun _ => pm)
theorem SetW.keep {h h' : Heap} (R : SetW P w h a L es ep t) (ha : ∀ o, h.get? a = some o → h'.get? a = some o) (ht : ∀ p ∈ L, IsT P w h' p.2 p.1) : SetW P w h' a L es ep t :=
  ⟨R.ob.imp fun o z => ⟨ha o z.1, z.2⟩, R.rows, R.tab, R.nd, ht, R.plain, R.led, R.room⟩
/-- a set just made -/
abbrev newSet (w : World) : Obj := { cls := .type "set", dict := none, data := .set #[] 0 (.fresh 0 0 (!w.params.followText "set-order")) }
theorem setW_new {h : Heap} (ho : h.get? a = some (newSet w)) : SetW P w h a [] #[] 0 (.fresh 0 0 (!w.params.followText "set-order")) := by
  refine ⟨⟨_, ho, ⟨rfl, rfl, rfl⟩, rfl⟩, rfl, ⟨List.Pairwise.nil, rfl, rfl, .inl rfl, ?_, ?_⟩, List.nodup_nil, ?_, rfl, ?_, ?_⟩
  · exact fun x hx => nomatch hx
  · exact fun i h j z => by simp at z
  · exact fun p hp => nomatch hp
  · show _ ∨ (!w.params.followText "set-order") = true
    cases w.params.followText "set-order" <;> simp
  · show 0 < 7 * 3
    omega
/-- the loop of set.update -/
theorem updateW {I : Addr} {fp wr : List Addr} {G : Array GenState → Array GenState → Prop} {n : Nat} {Pv : Nat → Value → Prop} {St : Nat → Shared → Prop} {R : Result → Shared → Prop}
    (W : WalksS P w A.in1 I fp wr G n Pv St) (S : Addr) (away : S ∉ fp) (ks : List (Addr × List Int)) (ln : n = ks.length) (lim : ks.length ≤ 1200) (got : ∀ i v, Pv i v → ∃ p, ks[i]? = some p ∧ v = .ref p.1)
    (h0 : Heap) (tup : ∀ p ∈ ks, IsT P w h0 p.2 p.1) (fresh : h0.get? S = none) (freshw : ∀ b ∈ wr, h0.get? b = none) (hu : A.in1.units < cLine) :
    ∀ (k i : Nat) (s : Shared), n - i = k → i ≤ n → St i s → (∀ b o, h0.get? b = some o → s.heap.get? b = some o) → (∃ L es ep t, SetW P w s.heap S L es ep t ∧ Got ks i L) →
      (∀ s' L es ep t, Moved (S :: wr) G s s' → SetW P w s'.heap S L es ep t → Got ks n L → (∀ b o, h0.get? b = some o → s'.heap.get? b = some o) → R (.ok (.ret .none)) s') →
      codeAny (model P w) A (.builtin "set.update.loop" ⟨[.ref S, .ref I], []⟩) R s := by
  have out : S ∉ wr := fun z => away (W.sub _ z)
  have wide : ∀ b ∈ wr, b ∈ S :: wr := fun b hb => List.mem_cons_of_mem _ hb
  have still : ∀ {s s' : Shared}, Moved wr G s s' → (∀ b o, h0.get? b = some o → s.heap.get? b = some o) → ∀ b o, h0.get? b = some o → s'.heap.get? b = some o := fun m z b o e =>
    m.heap b o (fun hb => by rw [freshw b hb] at e; cases e) (z b o e)
  intro k
  induction k with
  | zero =>
    intro i s ek le st kp ⟨L, es, ep, t, hS, g⟩ fin
    obtain rfl : i = n := by omega
    refine codeAny_builtin F.entry_set_update_loop ?_
    rw [Around.under_plainId F.plain_set_update_loop _]
    show wpAny _ A.in1 (pyNext (.ref I) >>= _) _ _ s
    refine wpAny_bind (W.done s _ _ st fun s' m => ?_)
    show wpAny _ A.in1 (ret Value.none) _ _ s'
    have kp2 := still m kp
    exact wpAny_pure (fin s' L es ep t (m.mono wide) (hS.keep (fun o e => m.heap S o out e) fun p hp => isT_keep (tup p (List.mem_of_mem_take (g.sub p hp))) kp2) g kp2)
  | succ k more =>
    intro i s ek le st kp ⟨L, es, ep, t, hS, g⟩ fin
    have lt : i < n := by omega
    refine codeAny_builtin F.entry_set_update_loop ?_
    rw [Around.under_plainId F.plain_set_update_loop _]
    show wpAny _ A.in1 (pyNext (.ref I) >>= _) _ _ s
    refine wpAny_bind (W.item i s _ _ lt st fun v s' hP st2 m => ?_)
    obtain ⟨p, hp, rfl⟩ := got i v hP
    have kp2 := still m kp
    have S2 : SetW P w s'.heap S L es ep t := hS.keep (fun o e => m.heap S o out e) fun q hq => isT_keep (tup q (List.mem_of_mem_take (g.sub q hq))) kp2
    have tp : IsT P w s'.heap p.2 p.1 := isT_keep (tup p (List.mem_of_getElem? hp)) kp2
    show wpAny _ A.in1 (holding [Value.ref p.1] (setAdd S (.ref p.1)) >>= _) _ _ s'
    refine wpAny_bind (wpAny_holding ?_)
    unfold setAdd
    refine wpAny_holding (wpAny_bind (wpAny_pyHash_tuple hu tp ?_))
    refine addW (s := { s' with toks := s'.toks + (p.2.length + 1) }) S2 tp hu (by have := g.len; omega) fun b h' L' es' ep' t' sb S3 c1 c2 => ?_
    have g2 : Got ks (i + 1) L' := by
      by_cases c : p.2 ∈ L.map (·.2)
      · exact (c1 c) ▸ g.same hp c
      · exact g.more hp (c2 c)
    have kp3 : ∀ b o, h0.get? b = some o → h'.get? b = some o := fun b o e => by
      rw [sb.2 b (fun z => by rw [z, fresh] at e; cases e)]
      exact kp2 b o e
    refine wpAny_pure ⟨plainId_quiet F.plain_set_update_loop _, more (i + 1) _ (by omega) lt (W.frame _ s' _ _ st2 (Nat.le_add_right _ _) fun b hb o e => ?_) kp3 ⟨L', es', ep', t', S3, g2⟩ fun s'' L2 es2 ep2 t2 m2 S4 g3 kp4 => ?_⟩
    · rw [sb.2 b (fun z => away (z ▸ hb))]
      exact e
    · refine fin s'' L2 es2 ep2 t2 (Moved.trans W.gtrans ((m.mono wide).then_heap (Nat.le_add_right _ _) fun b o hb e => ?_) m2) S4 g3 kp4
      rw [sb.2 b (fun z => hb (z ▸ List.mem_cons_self))]
      exact e
set_option maxHeartbeats 8000000 in
/-- set(list of tuples) -/
theorem set_ofT {l : Addr} {xs : Array Value} (ks : List (Addr × List Int)) {Q : Value → Shared → Prop} (hh : A.handled = none) (hl : s.heap.IsList l xs) (hx : xs.toList = ks.map fun p => Value.ref p.1)
    (tup : ∀ p ∈ ks, IsT P w s.heap p.2 p.1) (lim : ks.length ≤ 1200) (hu : A.units + 3 < cLine)
    (q : ∀ (h' : Heap) (tk : Nat) L es ep t, SetW P w h' s.heap.objs.size L es ep t → Got ks ks.length L → (∀ b o, s.heap.get? b = some o → h'.get? b = some o) → Q (.ref s.heap.objs.size) { s with heap := h', toks := tk }) :
    wpAny (model P w) A (call (.type "set") [.ref l]) Q E s := by
  have sz : xs.size = ks.length := by rw [← Array.length_toList, hx, List.length_map]
  have ⟨c0, t0, h0⟩ := F.called_set.mro
  have hm := F.called_set.made
  have hs := F.called_set.sub
  refine wpAny_call (codeAny_of_tree (wpAny_pure ⟨Code.quiet_builtin _ (by decide +kernel), codeAny_builtin F.entry_type_call ?_⟩))
  rw [Around.under_plain (weight_type_call_type "set" [.ref l] []) rfl]
  have hn := F.called_set.notType
  have hc := F.called_set.canCreate
  have ht := F.typeCall_set_1 (.ref l)
  repeat any_goals first | assumption | wp_step
  refine codeAny_mono (code_set_led1 (.ref l) (E := E) (Q₁ := fun v s1 => v = .ref s.heap.objs.size ∧ s1 = { s with heap := s.heap.push (newSet w) }) ⟨rfl, rfl⟩) fun r s1 hr => ?_
  cases r with
  | error e => exact hr
  | ok fl => cases fl with
  | ret v =>
    obtain ⟨rfl, rfl⟩ := hr
    have at0 : (s.heap.push (newSet w)).get? s.heap.objs.size = some (newSet w) := Heap.get?_push_size _ rfl
    have ty0 : Shared.TypeIs { s with heap := s.heap.push (newSet w) } (.ref s.heap.objs.size) "set" := ⟨_, at0, rfl⟩
    have i1 := F.called_set.init.lookup
    have i2 := F.called_set.init.bind (.ref s.heap.objs.size)
    repeat any_goals first | assumption | wp_step
    refine codeAny_mono (codeAny_call_builtin (R := wants (fun r s2 => r = .none ∧ ∃ h' tk L es ep t, s2 = { s with heap := h', toks := tk } ∧ SetW P w h' s.heap.objs.size L es ep t ∧ Got ks ks.length L ∧ ∀ b o, s.heap.get? b = some o → h'.get? b = some o) E)
      F.called_set.init.plain F.entry_set_init (check_set_init_1 ty0 ?_)) fun r s2 hr => ?_
    · obtain ⟨⟨oc, od, oa, os⟩, ho, e1, nl, e2⟩ := hl
      cases e1
      cases e2
      have hl1 : (s.heap.push (newSet w)).IsList l xs := ⟨_, Heap.get?_push_of_some _ ho, rfl, nl, rfl⟩
      have ho1 : (s.heap.push (newSet w)).get? l = some { cls := .type "list", dict := od, data := .seq xs nl, slots := os } := Heap.get?_push_of_some _ ho
      have s1 := F.sub_list_set
      have s2 := F.sub_list_frozenset
      have nd : (Value.type "list" == Value.type "dict") = false := by decide
      unfold Builtin.«set.__init__» noKeywords Builtin.Frozenset.updateFrom
      generalize hPI : pyIter = PI
      wp_walk
      subst hPI
      refine wpAny_pyIter_list hl1 (wpAny_bind (wpAny_runValue ?_))
      have lt : l < s.heap.objs.size := Heap.lt_size ho
      have n1 : l ≠ (s.heap.push (newSet w)).objs.size := by rw [Heap.size_push]; exact Nat.ne_of_lt (Nat.lt_succ_of_lt lt)
      have n2 : s.heap.objs.size ∉ [(s.heap.push (newSet w)).objs.size, l] := by
        rw [Heap.size_push]
        intro z
        rcases List.mem_cons.mp z with z | z
        · exact absurd z (Nat.ne_of_lt (Nat.lt_succ_self _))
        · exact absurd (List.mem_singleton.mp z) (Nat.ne_of_gt lt)
      have off : ∀ b, s.heap.objs.size ≤ b → s.heap.get? b = none := fun b hb => by
        cases z : s.heap.get? b with
        | none => rfl
        | some o => exact absurd (Heap.lt_size z) (Nat.not_lt.mpr hb)
      refine updateW ((Walks.list (A := A.in1.in1.in1) (by simp [hh]) _ l n1 xs).toS) s.heap.objs.size n2 ks sz lim (fun i v hv => ?_) s.heap tup (off _ (Nat.le_refl _)) (fun b hb => off b ?_) hu (xs.size - 0) 0 _ (by omega) (Nat.zero_le _) ⟨⟨_, Heap.get?_push_size _ rfl, rfl, rfl⟩, hl1.push _⟩ (fun b o e => Heap.get?_push_of_some _ (Heap.get?_push_of_some _ e)) ⟨[], _, 0, _, setW_new (Heap.get?_push_of_some _ at0), Got.zero ks⟩ ?_
      · rw [← Array.getElem?_toList, hx, List.getElem?_map] at hv
        obtain ⟨p, hp, rfl⟩ := Option.map_eq_some_iff.mp hv
        exact ⟨p, hp, rfl⟩
      · rw [List.mem_singleton.mp hb, Heap.size_push]
        exact Nat.le_succ _
      · rintro ⟨h', g', d', tk', os'⟩ L es ep t mv R g kp
        cases (show g' = s.gens from mv.gens)
        cases (show d' = s.drawn from mv.drawn)
        cases (show os' = s.os from mv.os)
        show wpAny _ _ _ _ _ _
        refine wpAny_pure ?_
        show wpAny _ _ (ret Value.none) _ _ _
        rw [sz] at g
        exact wpAny_pure ⟨rfl, h', tk', L, es, ep, t, rfl, R, g, kp⟩
    · cases r with
      | error e => exact hr
      | ok fl => cases fl with
      | ret v =>
        obtain ⟨rfl, h', tk, L, es, ep, t, rfl, R, g, kp⟩ := hr
        repeat any_goals first | assumption | wp_step
        exact q _ _ _ _ _ _ R g kp
      | _ => exact hr.elim
  | _ => exact hr.elim
end
theorem perm_of_len {α : Type} [DecidableEq α] : ∀ {l D : List α}, l.Nodup → (∀ x ∈ l, x ∈ D) → D.length ≤ l.length → D.Perm l
  | [], D, _, _, h => by
    rw [List.eq_nil_of_length_eq_zero (Nat.le_zero.mp h)]
  | x :: l, D, nd, sub, h => by
    obtain ⟨n1, n2⟩ := List.nodup_cons.mp nd
    have hx : x ∈ D := sub x List.mem_cons_self
    have ih := perm_of_len (D := D.erase x) n2 (fun y hy => (List.mem_erase_of_ne (fun (e : y = x) => n1 (e ▸ hy))).mpr (sub y (List.mem_cons_of_mem _ hy))) (by
      rw [List.length_erase_of_mem hx]
      simp only [List.length_cons] at h
      omega)
    exact (List.perm_cons_erase hx).trans (ih.cons x)
/-- as many as there are unlike ones -/
theorem got_len {ks L : List (Addr × List Int)} (g : Got ks ks.length L) (nd : (L.map (·.2)).Nodup) : (L.length = ks.length ↔ (ks.map (·.2)).Nodup) := by
  have sub : ∀ x ∈ L.map (·.2), x ∈ ks.map (·.2) := fun x hx => by
    obtain ⟨p, hp, rfl⟩ := List.mem_map.mp hx
    exact List.mem_map_of_mem (List.mem_of_mem_take (g.sub p hp))
  have sup : ∀ x ∈ ks.map (·.2), x ∈ L.map (·.2) := fun x hx => by
    obtain ⟨p, hp, rfl⟩ := List.mem_map.mp hx
    exact g.all p (by rw [List.take_length]; exact hp)
  constructor
  · intro e
    exact (perm_of_len nd sub (by rw [List.length_map, List.length_map, e]; exact Nat.le_refl _)).nodup_iff.mpr nd
  · intro n2
    have := ((List.perm_ext_iff_of_nodup nd n2).mpr fun x => ⟨sub x, sup x⟩).length_eq
    rwa [List.length_map, List.length_map] at this
/-- len(set(xs)), xs a list of tuples of whole numbers -/
def tLenSetT (K : PySem.W.Frag) (ta : TE) : TE := fun σ H Q => ta σ H fun x H1 => ∃ (l : Addr) (xs : List V) (ks : List (Addr × List Int)), x = .ref l ∧ SqL K H1 l xs ∧ xs = ks.map (fun p => V.ref p.1) ∧ (∀ p ∈ ks, SqT K H1 p.1 (p.2.map V.int)) ∧ ks.length ≤ 1200 ∧
  ∀ n : Nat, (n = ks.length ↔ (ks.map (·.2)).Nodup) → Q (.int n) H1
theorem pe_lenSetT {X : Cx} {a : Expr} {ta : TE} {p p2 q pos : Pos} {k : Nat} (room : RoomG k X.A) (hg : Gl X "len") (hm : X.mg "len" = none) (hg2 : Gl X "set") (hm2 : X.mg "set" = none) (ha : PE X a ta) (hc : X.calm = true := by rfl)
    (na : starEach [a] X.env = (false, eval a X.env) :: starEach [] X.env := by rfl) : PE X (.Call (.Name "len" p) [.Call (.Name "set" p2) [a] [] q] [] pos) (tLenSetT X.K ta) := by
  refine ⟨fun pins s σ H Q I h => Call_ (ld_blt I hg hm PySem.boot_len (PyProof.Rows.callWith_builtin1 (PyProof.Rows.args_cons ?_ rfl) rfl rfl))⟩
  refine Call_ (ld_blt I hg2 hm2 PyProof.Rows.boot_set (PyProof.Rows.callWith_type1 (PyProof.Rows.args_cons (thn (ha.run pins s σ H _ I h) fun v s1 ⟨x, H1, I1, r1, q1⟩ => PyProof.Rows.args_nil ?_) na) na rfl))
  obtain ⟨l, xs, ks, rfl, hq, rfl, ht, lim, q1⟩ := q1
  cases r1
  have un := room.units
  obtain ⟨its, r, pl, hz⟩ := I1.list hq
  refine set_ofT ks (I1.ok.hd hc) pl.isList (by simpa using refs_of_vals r) (fun p hp => I1.isT (ht p hp)) lim (by omega) fun h' tk L es ep t R g kp => PyProof.Rows.args_nil ?_
  have I2 : Inv X pins σ H1 { s1 with heap := h', toks := tk } := I1.kept fun b o e => kp b o e
  obtain ⟨o, ho, hex, hd⟩ := R.ob
  have n := R.size
  have gl := g.len
  exact call_len_set ho hex hd R.fits (by rw [n]; omega) ⟨.int L.length, H1, I2.tok _, ⟨_, by rw [n]⟩, q1 _ (got_len g R.nd)⟩
/-! YDn: nights and rooms (plain). -/
open PySem PySem.Spec PyProof.Rows L2
def nightsT (D : List (Pr × Nat)) : List Pr := D.flatMap fun p => (days p.1.1 p.1.2).map fun n => (n, (p.2 : Int))
theorem days_nodup (c g : Int) : (days c g).Nodup := by
  unfold days
  exact List.pairwise_map.mpr (List.nodup_range.imp fun {x y} h e => h (by omega))
theorem nights_nodup : ∀ {D : List (Pr × Nat)}, D.Pairwise disj → (nightsT D).Nodup
  | [], _ => List.nodup_nil
  | p :: D, h => by
    obtain ⟨h1, h2⟩ := List.pairwise_cons.mp h
    have e : nightsT (p :: D) = ((days p.1.1 p.1.2).map fun n => (n, (p.2 : Int))) ++ nightsT D := List.flatMap_cons
    rw [e, List.nodup_append]
    refine ⟨List.pairwise_map.mpr ((days_nodup _ _).imp fun {x y} h e => h (Prod.mk.inj e).1), nights_nodup h2, ?_⟩
    rintro x hx y hy rfl
    obtain ⟨n, hn, rfl⟩ := List.mem_map.mp hx
    obtain ⟨q, hq, hy⟩ := List.mem_flatMap.mp hy
    obtain ⟨k, hk, e⟩ := List.mem_map.mp hy
    obtain ⟨rfl, e2⟩ := Prod.mk.inj e
    have := h1 q hq (by omega)
    have a := mem_days.mp hn
    have b := mem_days.mp hk
    omega
theorem days_count (c g d : Int) : (days c g).countP (fun n => decide (n = d)) = if (decide (c ≤ d) && decide (d < g)) = true then 1 else 0 := by
  have e : (days c g).countP (fun n => decide (n = d)) = (days c g).count d := by
    unfold List.count
    congr 1
  rw [e]
  split
  · rename_i h
    simp only [Bool.and_eq_true, decide_eq_true_eq] at h
    exact List.Nodup.count (days_nodup _ _) |>.trans (if_pos (mem_days.mpr h))
  · rename_i h
    simp only [Bool.and_eq_true, decide_eq_true_eq] at h
    exact List.count_eq_zero.mpr fun z => h (mem_days.mp z)
theorem nights_count (d : Int) : ∀ D : List (Pr × Nat), ((nightsT D).map (·.1)).countP (fun n => decide (n = d)) = D.countP (cov d)
  | [] => rfl
  | p :: D => by
    have e : nightsT (p :: D) = ((days p.1.1 p.1.2).map fun n => (n, (p.2 : Int))) ++ nightsT D := List.flatMap_cons
    have e2 : ((days p.1.1 p.1.2).map fun n => (n, (p.2 : Int))).map (·.1) = days p.1.1 p.1.2 := by
      rw [List.map_map]
      exact List.map_id' _
    rw [e, List.map_append, List.countP_append, e2, nights_count d D, days_count, List.countP_cons]
    unfold cov
    split <;> omega
theorem nights_len : ∀ (D : List (Pr × Nat)), (∀ p ∈ D, p.1.2 ≤ p.1.1 + 14) → (nightsT D).length ≤ 14 * D.length
  | [], _ => Nat.le_refl _
  | p :: D, h => by
    have e : nightsT (p :: D) = ((days p.1.1 p.1.2).map fun n => (n, (p.2 : Int))) ++ nightsT D := List.flatMap_cons
    have a := nights_len D fun q hq => h q (List.mem_cons_of_mem _ hq)
    have b := h p List.mem_cons_self
    rw [e, List.length_append, List.length_map, days_len, List.length_cons]
    omega
/-- what the law finds to be the most stays of a night -/
theorem most_is {n : Nat} {D : List (Pr × Nat)} (h : Rooms n D) {ds : List Int} (hd : ∀ k, k ∈ ds ↔ k ∈ (nightsT D).map (·.1)) {m : Int}
    (hm : ds = [] ∧ m = 0 ∨ m ∈ (ds.map fun d => ((((nightsT D).map (·.1)).countP fun n => decide (n = d) : Nat) : Int)) ∧ ∀ x ∈ (ds.map fun d => ((((nightsT D).map (·.1)).countP fun n => decide (n = d) : Nat) : Int)), x ≤ m) : m = n := by
  have up : 0 ≤ m ∧ m ≤ n := by
    rcases hm with ⟨-, rfl⟩ | ⟨a, -⟩
    · omega
    · obtain ⟨d, hd', rfl⟩ := List.mem_map.mp a
      have := h.most d
      rw [nights_count]
      omega
  rcases h.peak with e | ⟨d, e⟩
  · omega
  · by_cases z : n = 0
    · omega
    · have hin : d ∈ (nightsT D).map (·.1) := by
        have := nights_count d D
        rw [e] at this
        obtain ⟨x, hx, ex⟩ := List.countP_pos_iff.mp (show 0 < ((nightsT D).map (·.1)).countP (fun n => decide (n = d)) by omega)
        rwa [of_decide_eq_true ex] at hx
      rcases hm with ⟨e0, -⟩ | ⟨-, b⟩
      · have := (hd d).mpr hin
        rw [e0] at this
        cases this
      · have := b _ (List.mem_map_of_mem ((hd d).mpr hin))
        rw [nights_count, e] at this
        omega
theorem up_eq : ∀ {as bs : List Int}, as.Pairwise (· < ·) → bs.Pairwise (· < ·) → (∀ k, k ∈ as ↔ k ∈ bs) → as = bs
  | [], [], _, _, _ => rfl
  | [], b :: bs, _, _, h => by have := (h b).mpr List.mem_cons_self; cases this
  | a :: as, [], _, _, h => by have := (h a).mp List.mem_cons_self; cases this
  | a :: as, b :: bs, ha, hb, h => by
    obtain ⟨a1, a2⟩ := List.pairwise_cons.mp ha
    obtain ⟨b1, b2⟩ := List.pairwise_cons.mp hb
    have e : a = b := by
      rcases List.mem_cons.mp ((h a).mp List.mem_cons_self) with e | e
      · exact e
      · have l := b1 a e
        rcases List.mem_cons.mp ((h b).mpr List.mem_cons_self) with e | e
        · exact e.symm
        · have := a1 b e
          omega
    subst e
    rw [up_eq a2 b2 fun k => ⟨fun hk => ?_, fun hk => ?_⟩]
    · rcases List.mem_cons.mp ((h k).mp (List.mem_cons_of_mem _ hk)) with rfl | z
      · have := a1 _ hk; omega
      · exact z
    · rcases List.mem_cons.mp ((h k).mpr (List.mem_cons_of_mem _ hk)) with rfl | z
      · have := b1 _ hk; omega
      · exact z
theorem rooms_range {n : Nat} {ps : List Pr} {F : List Nat} (h : Rooms n (ps.zip F)) (l : F.length = ps.length) {out : List Int} (so : out.Pairwise (· < ·)) (ho : ∀ k, k ∈ out ↔ k ∈ F.map fun r : Nat => (r : Int)) : out = (List.range n).map fun i : Nat => (i : Int) := by
  refine up_eq so (List.pairwise_map.mpr (List.pairwise_lt_range.imp fun h => by omega)) fun k => ?_
  rw [ho, List.mem_map, List.mem_map]
  constructor
  · rintro ⟨r, hr, rfl⟩
    obtain ⟨i, hi, e⟩ := List.getElem_of_mem hr
    have hp : i < ps.length := by omega
    refine ⟨r, List.mem_range.mpr ((h.use r).mpr ⟨(ps[i], F[i]), ?_, e⟩), rfl⟩
    exact List.mem_of_getElem? (List.getElem?_zip_eq_some.mpr ⟨List.getElem?_eq_getElem hp, List.getElem?_eq_getElem hi⟩ : (ps.zip F)[i]? = some (ps[i], F[i]))
  · rintro ⟨i, hi, rfl⟩
    obtain ⟨p, hp, rfl⟩ := (h.use i).mp (List.mem_range.mp hi)
    exact ⟨p.2, (List.of_mem_zip hp).2, rfl⟩
/-- pairs as tuples for a set -/
theorem prs_keys {K : PySem.W.Frag} {H : Hp} : ∀ {xs : List V} {ps : List Pr}, PrsAt H xs ps → ∃ ks : List (Addr × List Int), xs = ks.map (fun p => V.ref p.1) ∧ (∀ p ∈ ks, SqT K H p.1 (p.2.map V.int)) ∧ ks.map (·.2) = ps.map fun p => [p.1, p.2]
  | _, _, .nil => ⟨[], rfl, by simp, rfl⟩
  | _, _, .cons h t => by
    obtain ⟨ks, e1, e2, e3⟩ := prs_keys (K := K) t
    obtain ⟨a, rfl, ha⟩ := h
    refine ⟨(a, [_, _]) :: ks, by rw [List.map_cons, e1], fun p hp => ?_, by rw [List.map_cons, e3]; rfl⟩
    rcases List.mem_cons.mp hp with rfl | hp
    · exact SqT.of ha
    · exact e2 p hp
theorem keys_nodup {ps : List Pr} (h : ps.Nodup) : (ps.map fun p => [p.1, p.2]).Nodup := List.pairwise_map.mpr (h.imp fun {p q} ne e => ne (by
  have e1 := (List.cons.inj e).1
  have e2 := (List.cons.inj (List.cons.inj e).2).1
  exact Prod.ext e1 e2))
/-! YLt: data < data (alike data), the order of (number, (number, number)). -/
open PySem PySem.Spec PyProof.Rows L2
def rLtD (K : PySem.W.Frag) : R2 := fun x y H Q => ∃ d e, Dp K H x d ∧ Dp K H y e ∧ PySem.W.alike d e = true ∧ d ≠ .none ∧ d.depth ≤ 60 ∧ Q (.bl (PySem.W.dataLt d e)) H
theorem lt_ints : ∀ {a b : Int} {xs ys : List PyData}, PyProof.Rows.lexLt PyProof.Rows.itemOrd (PySem.W.keyToksAll (.int a :: xs)) (PySem.W.keyToksAll (.int b :: ys)) = if a = b then PyProof.Rows.lexLt PyProof.Rows.itemOrd (PySem.W.keyToksAll xs) (PySem.W.keyToksAll ys) else decide (a < b) := by
  intro a b xs ys
  by_cases z : a = b
  · subst z
    rw [if_pos rfl, PySem.W.dataLt_all_yes (x := .int a) (y := .int a) rfl (by rw [PyData.eqv]; simp)]
  · rw [if_neg z, PySem.W.dataLt_all_no (x := .int a) (y := .int b) rfl (by rw [PyData.eqv]; simp [z]), PySem.W.dataLt_int]
theorem lt_nil : PyProof.Rows.lexLt PyProof.Rows.itemOrd (PySem.W.keyToksAll []) (PySem.W.keyToksAll []) = false := PyProof.Rows.lex_irrefl _
theorem lt_two {a b c d : Int} : PySem.W.dataLt (.tuple [.int a, .int b]) (.tuple [.int c, .int d]) = decide (a < c ∨ a = c ∧ b < d) := by
  rw [PySem.W.dataLt_tuple, lt_ints, lt_ints, lt_nil]
  by_cases z : a = c
  · rw [if_pos z]
    by_cases y : b = d
    · rw [if_pos y]; simp; omega
    · rw [if_neg y]; simp [z]
  · rw [if_neg z]; simp [z]
/-! YHo: hindrances (as in YHn), of the program alone. -/
open PySem PySem.Spec PyProof.Rows L2
def hD (h : Int × Wd × Int) : PyData := .tuple [.int h.1, .str h.2.1.word, .int h.2.2]
def hindB (rs : List RuleD) (w : Wd) (c g d : Int) : Bool := match w with
  | .price => !soldB rs d | .come => !comeB rs .come d | .go => !comeB rs .go d | .least => decide (1 < numI rs .least d) | .most => decide (numI rs .most d < g - d) | _ => false
def hindP (rs : List RuleD) (w : Wd) (c g d : Int) : Bool := if w = .go then decide (c < d) && hindB rs w c g d else !decide (d = g) && hindB rs w c g d
def daysW (w : Wd) (c g : Int) : List Int := if w = .go then days (c + 1) (g + 1) else days c g
def rowW (k : Int) (rs : List RuleD) (c g : Int) (w : Wd) : List (Int × Wd × Int) := ((daysW w c g).filter (hindB rs w c g)).map fun d => (k, w, d)
abbrev wH : List Wd := [.price, .come, .go, .least, .most]
def rowB (k : Int) (rs : List RuleD) (c g : Int) : List (Int × Wd × Int) := wH.flatMap (rowW k rs c g)
def hindAll (c g : Int) : Int → List (List RuleD) → List (Int × Wd × Int)
  | _, [] => []
  | k, rs :: r => rowB k rs c g ++ hindAll c g (k + 1) r
def sp_hinders (K : PySem.W.Frag) : Sp := Sp4 fun v u d y H Q E => CFR K ∧ CFB K ∧ ∃ (rs : List RuleD) (w : Wd) (day : Int) (a : Addr) (c g : Int), BkAt K H v rs ∧ (∀ r ∈ rs, RuleD.good r) ∧ w ∈ wH ∧ u = .str w.word ∧ d = .int day ∧ y = .ref a ∧ SqT K H a [.int c, .int g] ∧ ∀ H', Same H H' → Q (.bl (hindP rs w c g day)) H'
def sp_hindrances (K : PySem.W.Frag) : Sp := Sp2 fun v y H Q E => CFR K ∧ CFB K ∧ exHind K = true ∧ ∃ (p : Addr) (vs : List V) (bs : List (List RuleD)) (a : Addr) (c g : Int), v = .ref p ∧ SqL K H p vs ∧ Paired (BkAt K H) vs bs ∧ GoodB bs ∧ bs.length ≤ 10 ∧ y = .ref a ∧ SqT K H a [.int c, .int g] ∧ StayB c g ∧
  ∀ (q : Addr) (ys : List V) (H' : Hp), Same H H' → Fr H q → H' q = some (.lst ys) → Tds H' ys ((hindAll c g 0 bs).map hD) → Q (.ref q) H'
/-! YHl: what holds a stay off: the plain law. -/
open PySem PySem.Spec PyProof.Rows L2
abbrev Hi := Int × Wd × Int
/-- whether a book lets a stay be had with some hindrances in force -/
def letsP (rs : List RuleD) (k : Int) (P : Hi → Bool) (b e : Int) : Bool :=
  !P (k, .come, b) && (!P (k, .go, e) && (!(P (k, .least, b) && decide (e - b < numI rs .least b)) && (!(P (k, .most, b) && decide (numI rs .most b < e - b)) && (days b e).all fun d => !P (k, .price, d))))
/-- whether one of the books does -/
def someP (bs : List (List RuleD)) (P : Hi → Bool) (b e : Int) : Bool := (List.range bs.length).any fun i => letsP (bs.getD i []) (i : Int) P b e
/-- stays one behind another, each of which one lets be had -/
inductive Road (S : Int → Int → Bool) (g : Int) : Int → Int → Prop
  | nil (a : Int) : Road S g a a
  | cons {a b c : Int} : a < b → b ≤ g → S a b = true → Road S g b c → Road S g a c
open Classical in
/-- whether roads lead through -/
noncomputable def leadsB (S : Int → Int → Bool) (c g : Int) : Bool := decide (Road S g c g)
open Classical in
/-- what a stay is held off by -/
noncomputable def heldB (bs : List (List RuleD)) (c g : Int) (P : Hi → Bool) : Bool := !leadsB (someP bs P) c g
/-! YSj: sorted of a list of tuples (stay, number); max with a default. -/
open PySem PySem.Spec PyProof.Rows L2
/-- a tuple of a pair and a number -/
def SjAt (H : Hp) (v : V) (q : Pr × Int) : Prop := ∃ t x, v = .ref t ∧ H t = some (.tup [x, .int q.2]) ∧ PrAt H x q.1
abbrev SjsAt (H : Hp) (xs : List V) (qs : List (Pr × Int)) : Prop := Paired (SjAt H) xs qs
def sjD (q : Pr × Int) : PyData := .tuple [prD q.1, .int q.2]
theorem sj_tk {G G' : Hp} {v : V} {q : Pr × Int} (e : Tk G G') (h : SjAt G v q) : SjAt G' v q := let ⟨t, x, a, b, c⟩ := h; ⟨t, x, a, e _ _ b, pr_tk e c⟩
theorem sjs_tk {G G' : Hp} {xs : List V} {qs : List (Pr × Int)} (e : Tk G G') (h : SjsAt G xs qs) : SjsAt G' xs qs := Paired.mapP h fun _ _ q => sj_tk e q
theorem dp_sj {K : PySem.W.Frag} {H : Hp} {v : V} {q : Pr × Int} (h : SjAt H v q) : Dp K H v (sjD q) := by
  obtain ⟨t, x, rfl, e, hx⟩ := h
  exact .tup (SqT.of e) (.cons (dp_pr hx) (.cons (.int _) .nil))
abbrev VJ := V × (Pr × Int)
theorem each_sj {X : Cx} {pins : List (Addr × Obj)} {σ : L2.St} {H : Hp} {s : Shared} (I : Inv X pins σ H s) : ∀ {xs : List V} {its : List Value} {qs : List (Pr × Int)}, Vals xs its → SjsAt H xs qs → ∃ bs : List VJ, bs.map (·.1) = xs ∧ bs.map (·.2) = qs ∧ PySem.W.EachIs (fun v (b : VJ) => RelV b.1 v ∧ SjAt H b.1 b.2) its bs ∧ PySem.W.EachIs (fun v (b : VJ) => ∃ as, Reads s.heap v (sjD b.2) as) its bs
  | [], _, [], .nil, _ => ⟨[], rfl, rfl, .nil, .nil⟩
  | x :: xs, v :: its, q :: qs, .cons r t, .cons h k => by
    obtain ⟨bs, e1, e2, h1, h2⟩ := each_sj I t k
    exact ⟨(x, q) :: bs, by rw [List.map_cons, e1], by rw [List.map_cons, e2], .cons ⟨r, h⟩ h1, .cons (Dp.reads I (sjD q) x v (dp_sj h) r) h2⟩
theorem each_outJ {H : Hp} : ∀ {out : List Value} {bs : List VJ}, PySem.W.EachIs (fun v (b : VJ) => RelV b.1 v ∧ SjAt H b.1 b.2) out bs → Vals (bs.map (·.1)) out ∧ SjsAt H (bs.map (·.1)) (bs.map (·.2))
  | _, _, .nil => ⟨.nil, .nil⟩
  | _, _, .cons h t => by
    obtain ⟨h1, h2⟩ := each_outJ t
    exact ⟨.cons h.1 h1, .cons h.2 h2⟩
theorem le_sj {p q : Pr × Int} (h : PySem.W.dataLe false sjD p q = true) : p.1.1 ≤ q.1.1 := by
  refine Decidable.byContradiction fun c => ?_
  have lt : PySem.W.dataLt (sjD q) (sjD p) = true := by
    have n : PyData.eqv (prD q.1) (prD p.1) = false := by
      rw [eqv_pr, decide_eq_false_iff_not]
      intro e
      rw [e] at c
      omega
    unfold sjD
    rw [PySem.W.dataLt_pair rfl rfl, if_neg (by rw [n]; decide)]
    show PySem.W.dataLt (prD q.1) (prD p.1) = true
    unfold prD
    rw [lt_two, decide_eq_true_eq]
    omega
  have no : PySem.W.dataLt (sjD q) (sjD p) = false := by simpa [PySem.W.dataLe, PySem.W.sortLe, PySem.W.dataLt] using h
  rw [lt] at no
  cases no
/-- the tuples sorted -/
def sortJ (qs : List (Pr × Int)) : List (Pr × Int) := qs.mergeSort (PySem.W.dataLe false sjD)
theorem sortJ_perm (qs : List (Pr × Int)) : (sortJ qs).Perm qs := List.mergeSort_perm _ _
theorem sortJ_up (qs : List (Pr × Int)) : (sortJ qs).Pairwise (fun p q => p.1.1 ≤ q.1.1) := (PySem.W.sort_pairwise (PySem.W.sortLe_total _ _ _) qs).imp fun h => le_sj h
/-- sorted(xs), xs a list of tuples (stay, number): the stays' first days rise -/
def rSortJ (K : PySem.W.Frag) : List V → Hp → VK → Prop := fun vs H Q => ∃ (a : Addr) (xs : List V) (qs : List (Pr × Int)), vs = [V.ref a] ∧ SqL K H a xs ∧ SjsAt H xs qs ∧
  ∀ (ys : List V) (p : Addr), Fr H p → SjsAt H ys (sortJ qs) → Q (.ref p) (upd H p (.lst ys))
theorem cr_sortJ {X : Cx} {k : Nat} (room : RoomG k X.A) : CallR X (.builtin "sorted") (rSortJ X.K) := by
  rintro pins s σ H vs us Q I r ⟨a, xs, qs, rfl, hs, hp, q⟩
  obtain ⟨its, rv, hL, hz⟩ := I.list hs
  rw [Vals.ref1 r]
  have un := room.units
  obtain ⟨bs, e1, e2, he, hr⟩ := each_sj I rv hp
  have lb : bs.length = xs.length := by rw [← e1, List.length_map]
  refine PySem.W.sorted_data (enc := fun b : VJ => sjD b.2) hL.isList he hr (.of fun b b' => by simp [sjD, prD, PySem.W.alike, PySem.W.alikeAll]) (.tuples fun b => ⟨_, _, rfl⟩) (by rw [lb]; exact hz) (fun b _ => ?_) fun out hl ho => ?_
  · have : (sjD b.2).depth ≤ 4 := by simp [sjD, prD, PyData.depth, PyData.depthAll]
    omega
  obtain ⟨ep, he'⟩ := PyProof.Rows.sortedAll_at s.heap its out.toArray
  obtain ⟨o1, o2⟩ := each_outJ ho
  have pm := List.mergeSort_perm bs (PySem.W.dataLe false fun b : VJ => sjD b.2)
  have tot : PySem.W.TotalLe (PySem.W.dataLe false fun b : VJ => sjD b.2) := PySem.W.sortLe_total _ _ _
  have hlen : ((bs.mergeSort (PySem.W.dataLe false fun b : VJ => sjD b.2)).map (·.1)).length ≤ sizeLine := by
    rw [List.length_map, pm.length_eq, lb]
    exact hz
  refine ⟨.ref _, upd H (s.heap.objs.size + 1) (.lst ((bs.mergeSort (PySem.W.dataLe false fun b : VJ => sjD b.2)).map (·.1))), I.laid (t' := s.toks) (fun _ _ => PyProof.Rows.sortedAll_old) (Nat.le_succ _) ⟨hlen, out, ep, o1, he'⟩, rfl, q _ _ (I.hok.fresh (Nat.le_succ _)) ?_⟩
  have e3 : sortJ qs = (bs.mergeSort (PySem.W.dataLe false fun b : VJ => sjD b.2)).map (·.2) := by
    rw [← e2]
    exact (List.map_mergeSort (f := fun b : VJ => b.2) (r := PySem.W.dataLe false fun b : VJ => sjD b.2) (s := PySem.W.dataLe false sjD) (l := bs) fun a _ b _ => rfl).symm
  rw [e3]
  exact o2
theorem g_sortJ {K : PySem.W.Frag} {H : Hp} {Q : VK} {a : Addr} {xs : List V} {qs : List (Pr × Int)} (h : SqL K H a xs) (t : SjsAt H xs qs) (q : ∀ (ys : List V) (p : Addr), Fr H p → SjsAt H ys (sortJ qs) → Q (.ref p) (upd H p (.lst ys))) : rSortJ K [.ref a] H Q := ⟨a, xs, qs, rfl, h, t, q⟩
/-- max(xs, default=d) -/
theorem max_of : ∀ (xs : List Int) (x : Int), PySem.W.maxOf x xs ∈ x :: xs ∧ ∀ y ∈ x :: xs, y ≤ PySem.W.maxOf x xs
  | [], x => by simp [PySem.W.maxOf]
  | z :: xs, x => by
    by_cases h : x < z
    · have e : PySem.W.maxOf x (z :: xs) = PySem.W.maxOf z xs := by simp [PySem.W.maxOf, PySem.W.DatumOrd.lt, h]
      obtain ⟨a, b⟩ := max_of xs z
      rw [e]
      refine ⟨List.mem_cons_of_mem _ a, fun y hy => ?_⟩
      rcases List.mem_cons.mp hy with rfl | hy
      · have := b z List.mem_cons_self
        omega
      · exact b y hy
    · have e : PySem.W.maxOf x (z :: xs) = PySem.W.maxOf x xs := by simp [PySem.W.maxOf, PySem.W.DatumOrd.lt, h]
      obtain ⟨a, b⟩ := max_of xs x
      rw [e]
      refine ⟨?_, fun y hy => ?_⟩
      · rcases List.mem_cons.mp a with a | a
        · rw [a]; exact List.mem_cons_self
        · exact List.mem_cons_of_mem _ (List.mem_cons_of_mem _ a)
      · rcases List.mem_cons.mp hy with rfl | hy
        · exact b _ List.mem_cons_self
        · rcases List.mem_cons.mp hy with rfl | hy
          · have := b x List.mem_cons_self
            omega
          · exact b y (List.mem_cons_of_mem _ hy)
theorem hold_ints {h : Heap} : ∀ {us : List Value} {ns : List Int}, IntsAre us ns → PySem.W.HoldAll h us ns
  | _, _, .nil => ⟨[], .nil⟩
  | _, _, .cons i t r => by
    obtain ⟨as, k⟩ := hold_ints (h := h) r
    exact ⟨_, .cons (.int i t) k⟩
def rMaxD (K : PySem.W.Frag) : List V → List V → Hp → VK → Prop := fun vs zs H Q => ∃ (a : Addr) (ns : List Int) (d : Int), vs = [.ref a] ∧ zs = [.int d] ∧ SqL K H a (ns.map V.int) ∧ (ns = [] → Q (.int d) H) ∧ ∀ m, m ∈ ns → (∀ x ∈ ns, x ≤ m) → Q (.int m) H
theorem crk_maxD {X : Cx} {k : Nat} (hc : X.calm = true) (room : RoomG k X.A) : CallRK X (.builtin "max") [Str.ofString "default"] (rMaxD X.K) := by
  intro pins s σ H vs zs us ws Q I r rz h
  obtain ⟨a, ns, d, rfl, rfl, hs, q0, q⟩ := h
  obtain ⟨its, rv, hl, _⟩ := I.list hs
  have un := room.units
  rw [Vals.ref1 r]
  obtain ⟨w1, rfl, t, rfl⟩ := vals1 rz
  refine PySem.W.max_list_datum_default (α := Int) (xs := ns) (I.ok.hd hc) hl.isList (hold_ints (by simpa using rv.ints)) (by show X.A.units + 1 + 0 < _; omega) (fun e h' tk k => ⟨.int d, H, I.kept k, ⟨_, rfl⟩, q0 e⟩) fun y ys i v h' tk e _ hv k => ?_
  obtain ⟨m1, m2⟩ := max_of ys y
  obtain ⟨as, hv⟩ := hv
  cases hv with
  | int i t => exact ⟨.int _, H, I.kept k, ⟨_, rfl⟩, q _ (e ▸ m1) (e ▸ m2)⟩
theorem g_maxD {K : PySem.W.Frag} {H : Hp} {Q : VK} {a : Addr} {ns : List Int} {d : Int} (h : SqL K H a (ns.map V.int)) (q0 : ns = [] → Q (.int d) H) (q : ∀ m, m ∈ ns → (∀ x ∈ ns, x ≤ m) → Q (.int m) H) : rMaxD K [.ref a] [.int d] H Q := ⟨a, ns, d, rfl, rfl, h, q0, q⟩
theorem g_maxDE {K : PySem.W.Frag} {H : Hp} {Q : VK} {a : Addr} {ns : List Int} {d : Int} (h : SqL K H a (ns.map V.int)) (q : ∀ m, (ns = [] ∧ m = d ∨ m ∈ ns ∧ ∀ x ∈ ns, x ≤ m) → Q (.int m) H) : rMaxD K [.ref a] [.int d] H Q := g_maxD h (fun e => q d (.inl ⟨e, rfl⟩)) fun m a b => q m (.inr ⟨a, b⟩)
/-! YDw: dealt, walked. -/
open PySem PySem.Spec PyProof.Rows L2
def enumJ (ps : List Pr) : List (Pr × Int) := (List.range ps.length).map fun i => (ps.getD i (0, 0), (i : Int))
def DealtF (ps : List Pr) (F : List Nat) : Prop := F.length = ps.length ∧ ∀ (k : Nat) (q : Pr × Int), (sortJ (enumJ ps))[k]? = some q → F[q.2.toNat]? = (dealR ((sortJ (enumJ ps)).map (·.1)) [])[k]?
theorem enum_mem {ps : List Pr} {q : Pr × Int} (h : q ∈ sortJ (enumJ ps)) : ∃ i : Nat, i < ps.length ∧ q.2 = (i : Int) ∧ ps[i]? = some q.1 := by
  obtain ⟨i, hi, rfl⟩ := List.mem_map.mp ((sortJ_perm _).mem_iff.mp h)
  have hi := List.mem_range.mp hi
  exact ⟨i, hi, rfl, by simp [List.getD_eq_getElem?_getD, List.getElem?_eq_getElem hi]⟩
theorem enum_has {ps : List Pr} {i : Nat} (h : i < ps.length) : ∃ (k : Nat) (q : Pr × Int), (sortJ (enumJ ps))[k]? = some q ∧ q.2 = (i : Int) := by
  obtain ⟨k, hk⟩ := List.getElem?_of_mem ((sortJ_perm (enumJ ps)).mem_iff.mpr (List.mem_map_of_mem (List.mem_range.mpr h)))
  exact ⟨k, _, hk, rfl⟩
theorem enum_one {ps : List Pr} {j k : Nat} {p q : Pr × Int} (hj : (sortJ (enumJ ps))[j]? = some p) (hk : (sortJ (enumJ ps))[k]? = some q) (e : p.2 = q.2) : j = k := by
  have nd : ((sortJ (enumJ ps)).map (·.2)).Nodup := by
    refine ((sortJ_perm _).map _).nodup_iff.mpr ?_
    unfold enumJ
    rw [List.map_map]
    exact List.pairwise_map.mpr (List.nodup_range.imp fun {x y} h e => h (Int.ofNat.inj e))
  have lj : j < (sortJ (enumJ ps)).length := (List.getElem?_eq_some_iff.mp hj).1
  have lk : k < (sortJ (enumJ ps)).length := (List.getElem?_eq_some_iff.mp hk).1
  have a := (List.getElem?_eq_some_iff.mp hj).2
  have b := (List.getElem?_eq_some_iff.mp hk).2
  have no : ∀ {i j : Nat} (hi : i < (sortJ (enumJ ps)).length) (hj : j < (sortJ (enumJ ps)).length), i < j → ((sortJ (enumJ ps))[i]).2 ≠ ((sortJ (enumJ ps))[j]).2 := fun hi hj l => List.pairwise_iff_getElem.mp (List.pairwise_map.mp nd) _ _ hi hj l
  rcases Nat.lt_trichotomy j k with l | l | l
  · exact absurd (by rw [a, b]; exact e) (no lj lk l)
  · exact l
  · exact absurd (by rw [a, b]; exact e.symm) (no lk lj l)
theorem DealtF.one {ps : List Pr} {F G : List Nat} (h : DealtF ps F) (g : DealtF ps G) : F = G := by
  apply List.ext_getElem?
  intro i
  by_cases l : i < ps.length
  · obtain ⟨k, q, hk, e⟩ := enum_has l
    have a := h.2 k q hk
    have b := g.2 k q hk
    rw [e, Int.toNat_natCast] at a b
    rw [a, b]
  · rw [List.getElem?_eq_none (by rw [h.1]; omega), List.getElem?_eq_none (by rw [g.1]; omega)]
theorem DealtF.rooms {ps : List Pr} {F : List Nat} (h : DealtF ps F) (ok : ∀ p ∈ ps, p.1 < p.2) : Rooms (endR ((sortJ (enumJ ps)).map (·.1)) []).length (ps.zip F) := dealt_rooms (sortJ_perm _) (sortJ_up _) ok h.1 h.2
theorem enum_len (ps : List Pr) : (sortJ (enumJ ps)).length = ps.length := by
  rw [(sortJ_perm _).length_eq]
  simp [enumJ]
theorem while_p {c : TT} {tb : TS} {D : Ends} {σ : L2.St} {H : Hp} (W : Nat → L2.St → Hp → Prop) (P : L2.St → Hp → Prop) {m0 : Nat} (h0 : W m0 σ H)
    (hs : ∀ m σ H, W m σ H → c σ H fun b H1 => if b = true then tb { D with nx := fun σ' H' => ∃ m', m' < m ∧ W m' σ' H', ct := fun σ' H' => ∃ m', m' < m ∧ W m' σ' H', bk := D.nx } σ H1 else P σ H1)
    (mono : ∀ σ H Q Q', (∀ b H1, Q b H1 → Q' b H1) → c σ H Q → c σ H Q') (fin : ∀ σ H, P σ H → D.nx σ H) : tWhile c tb D σ H :=
  while_m W h0 (fun m σ H w => mono _ _ _ _ (fun b H1 q => by
    cases b with
    | true => exact q
    | false => exact fin _ _ q) (hs m σ H w)) mono
theorem ixZ {n : Nat} {i : Int} (h0 : 0 ≤ i) (h1 : i < n) : ixN n i = some i.toNat := by
  unfold ixN
  rw [if_pos h0, if_pos h1]
def rmV (F : List Nat) : List V := F.map fun k => V.int (k : Nat)
def sp_dealt (K : PySem.W.Frag) : Sp := Sp1 fun x H Q E => ∃ (a : Addr) (xs : List V) (ps : List Pr), x = .ref a ∧ SqL K H a xs ∧ PrsAt H xs ps ∧ ps.length ≤ 1000 ∧ ∀ (p : Addr) (H' : Hp) (F : List Nat), Same H H' → Fr H p → H' p = some (.lst (rmV F)) → DealtF ps F → Q (.ref p) H'
theorem g_dealt {K : PySem.W.Frag} {a : Addr} {xs : List V} {ps : List Pr} {H : Hp} {Q : VK} {E : XK} (h : SqL K H a xs) (hp : PrsAt H xs ps) (l : ps.length ≤ 1000) (q : ∀ (p : Addr) (H' : Hp) (F : List Nat), Same H H' → Fr H p → H' p = some (.lst (rmV F)) → DealtF ps F → Q (.ref p) H') : sp_dealt K ([.ref a] ++ []) H Q E := ⟨_, rfl, a, xs, ps, rfl, h, hp, l, q⟩
def t_dealt (K : PySem.W.Frag) : TS :=
  (tSeq (tAsg (tLst tNil) (gName 1))
  (tSeq (tAsg (tLc (iList K (tVar 0)) (gName 2) tYes (tC (.int 0)) [2]) (gName 3))
  (tSeq (tFor (iList K (tCB (Y.rSortJ K) (tCons (tLc (iEnum K (tCons (tVar 0) tNil)) (gTup K 2 (gCons (gName 4) (gCons (gName 2) gNil))) tYes (tTup (tCons (tVar 2) (tCons (tVar 4) tNil))) [4, 2]) tNil))) (gTup K 2 (gCons (gName 2) (gCons (gName 4) gNil)))
  (tSeq (tAsg (tC (.int 0)) (gName 5))
  (tSeq (tWhile (tAnd (tTest (tOp rLt (tVar 5) (tCB (rLen K) (tCons (tVar 1) tNil)))) (tTest (tOp rGt (tOp (rIxL K) (tVar 1) (tVar 5)) (tOp (rIxT K) (tVar 2) (tC (.int 0))))))
  (tAsg (tOp rAdd (tVar 5) (tC (.int 1))) (gName 5)))
  (tSeq (tIfS (tTest (tOp rEq (tVar 5) (tCB (rLen K) (tCons (tVar 1) tNil))))
  (tDrop (tBM K "list" rAppend (tVar 1) (tCons (tC (.int 0)) tNil)))
  tNext)
  (tSeq (tAsg (tOp (rIxT K) (tVar 2) (tC (.int 1))) (gSub (tVar 1) (tVar 5) rSetL))
  (tAsg (tVar 5) (gSub (tVar 3) (tVar 4) rSetL)))))))
  (tRet (tVar 3)))))
theorem pure_dealt {K : PySem.W.Frag} {x : V} {H : Hp} {Q : VK} {E : XK} (h : sp_dealt K [x] H Q E) : t_dealt K { nx := fun _ H' => Q .non H', rt := Q } [some x, none, none, none, none, none] H := by
  obtain ⟨x, e, a, xs, ps, rfl, hS, hP, hl, q⟩ := h
  cases e
  unfold t_dealt
  have xl := Paired.length hP
  walk_at "ss"
  rename_i u hu
  refine lc_flt (f := fun _ => some (.int 0)) (Same.seq (same_new hu) hS) (by omega) ?_ ?_
  · rintro D i x N acc hD hi hx ha hN -
    walk_at "ss"
    exact lc_leaf ha hi (hN _ rfl)
  intro D hD
  have e0 : (xs.filterMap fun _ => some (V.int 0)) = rmV (List.replicate ps.length 0) := by
    rw [List.filterMap_eq_map' , rmV, ← xl, List.map_replicate]
    exact List.map_const' ..
  rw [e0]
  have nu : D ≠ u := by walk_at "ne"
  have sG : Same H (upd (upd H u (.lst [])) D (.lst (rmV (List.replicate ps.length 0)))) := by walk_at "sm"
  have gu : (upd (upd H u (.lst [])) D (.lst (rmV (List.replicate ps.length 0)))) u = some (.lst []) := by walk_at "at"
  have gD : (upd (upd H u (.lst [])) D (.lst (rmV (List.replicate ps.length 0)))) D = some (.lst (rmV (List.replicate ps.length 0))) := upd_same
  have fu : Fr H u := hu
  have fD : Fr H D := fr_new hD
  generalize upd (upd H u (.lst [])) D (.lst (rmV (List.replicate ps.length 0))) = G at sG gu gD ⊢
  clear hu hD
  have hS1 := Same.seq sG hS
  have hP1 := prs_same sG hP
  walk_at "ss"
  dsimp only [List.set]
  refine g_iEnum ?_
  walk_at "ss"
  refine ⟨a, xs, rfl, hS1, ?_⟩
  refine lc_r (walk_enum (K := K) (a := a) (xs := xs)) SjAt (fun _ _ _ _ e h => sj_tk e h) (fun i => (ps[i]?).map fun p => (p, (i : Int))) (by omega) (fun H' s => Same.seq s hS1) ?_ ?_
  · rintro D2 i x H1 H2 N hD2 hi s1 ⟨T, x1, x2, rfl, hT, rfl, h1, h2⟩ hN -
    replace hT : Fr H1 T := hT
    replace h2 : xs[i]? = some x2 := h2
    obtain rfl : x1 = .int (i : Nat) := (Option.some.inj h1).symm
    obtain ⟨p, hp, hx⟩ := Paired.getL hP1 h2
    have hx1 := pr_same s1 hx
    walk_at "ss"
    rename_i t2 ht2
    exact hN _ (p, (i : Int)) _ (by rw [hp]; rfl) (by walk_at "sm") ⟨_, _, rfl, upd_same, by walk_at "pr"⟩
  intro D2 H1 ys hD2 s1 h1 hJ
  have eJ : (List.range xs.length).filterMap (fun i : Nat => (ps[i]?).map fun p => (p, (i : Int))) = enumJ ps := by
    rw [xl]
    unfold enumJ
    have : ∀ l : List Nat, (∀ i ∈ l, i < ps.length) → l.filterMap (fun i : Nat => (ps[i]?).map fun p => (p, (i : Int))) = l.map fun i => (ps.getD i (0, 0), (i : Int)) := by
      intro l
      induction l with
      | nil => intro _; rfl
      | cons i l ih =>
        intro h
        have hi := h i List.mem_cons_self
        rw [List.filterMap_cons_some (b := (ps.getD i (0, 0), (i : Int))) (by simp [List.getD_eq_getElem?_getD, List.getElem?_eq_getElem hi]), List.map_cons, ih fun j hj => h j (List.mem_cons_of_mem _ hj)]
    exact this _ fun i hi => List.mem_range.mp hi
  rw [eJ] at hJ
  walk_at "ss"
  refine g_sortJ (SqL.of h1) hJ fun zs p4 hp4 hZ => ?_
  have s4 : Same G (upd H1 p4 (.lst zs)) := sm_new hp4 s1
  have h4 : (upd H1 p4 (.lst zs)) p4 = some (.lst zs) := upd_same
  have hZ4 := sjs_tk (tk_new (o := .lst zs) hp4) hZ
  have f4 : Fr G p4 := by walk_at "fr"
  generalize upd H1 p4 (.lst zs) = G2 at s4 h4 hZ4
  clear hp4 hZ hJ h1 hD2
  have n1 : p4 ≠ u := by walk_at "ne"
  have n2 : p4 ≠ D := by walk_at "ne"
  have zl : zs.length = ps.length := (Paired.length hZ4).trans (enum_len ps)
  have gu2 := s4 _ _ gu
  have gD2 := s4 _ _ gD
  clear hP1 hS1 s1 hS hP eJ e0
  have ul := enum_len ps
  obtain ⟨us, eus⟩ : ∃ us, us = sortJ (enumJ ps) := ⟨_, rfl⟩
  have F0 : DealtF ps = fun F => F.length = ps.length ∧ ∀ (k : Nat) (q : Pr × Int), us[k]? = some q → F[q.2.toNat]? = (dealR (us.map (·.1)) [])[k]? := by
    rw [eus]
    rfl
  have emem : ∀ q ∈ us, ∃ i : Nat, i < ps.length ∧ q.2 = (i : Int) ∧ ps[i]? = some q.1 := fun q hq => enum_mem (eus ▸ hq)
  have eone : ∀ {j k : Nat} {p q : Pr × Int}, us[j]? = some p → us[k]? = some q → p.2 = q.2 → j = k := fun hj hk e => enum_one (eus ▸ hj) (eus ▸ hk) e
  rw [F0] at q
  rw [← eus] at ul hZ4
  clear F0 eus
  walk_at "ss"
  refine for_list (K := K) (a := p4) (xs := zs) (D := { nx := tRet (tVar 3) { nx := fun _ H' => Q V.non H', rt := Q }, rt := Q }) (fun k σ H' => ∃ v2 v4 v5 F, σ = [some (.ref a), some (.ref u), v2, some (.ref D), v4, v5] ∧ Same H H' ∧ H' p4 = some (.lst zs) ∧ SjsAt H' zs us ∧ H' u = some (.lst ((endR ((us.take k).map (·.1)) []).map V.int)) ∧ H' D = some (.lst (rmV F)) ∧ F.length = ps.length ∧ ∀ (j : Nat) (q : Pr × Int), j < k → us[j]? = some q → F[q.2.toNat]? = (dealR (us.map (·.1)) [])[j]?)
    ?h0 (fun i σ H' _ h => by obtain ⟨_, _, _, _, _, _, h, _⟩ := h; exact SqL.of h) ?_ ?_
  case h0 => exact ⟨_, _, _, _, rfl, sG.trans s4, h4, hZ4, gu2, gD2, by simp, by simp⟩
  · clear gD2 gu2 hZ4 h4 s4 sG gu gD
    rintro k x σ H' hi ⟨v2, v4, v5, F, rfl, sm, h4, hZ, hu, hD, lF, fill⟩
    obtain ⟨q, hq, t, y, rfl, ht, hy⟩ := Paired.getL hZ hi
    obtain ⟨z, rfl, hz⟩ := hy
    obtain ⟨⟨c, g⟩, at_⟩ := q
    obtain ⟨i0, l0, rfl, -⟩ := emem _ (List.mem_of_getElem? hq)
    have lk : k < us.length := (List.getElem?_eq_some_iff.mp hq).1
    obtain ⟨d1, d2⟩ := dealR_at (us.map (·.1)) [] k (p := (c, g)) (by rw [List.getElem?_map, hq]; rfl)
    rw [← List.map_take] at d1 d2
    rw [← List.map_take] at d2
    have el := endR_len ((us.take k).map (·.1)) []
    rw [List.length_map, List.length_take, List.length_nil] at el
    generalize endR ((us.take k).map (·.1)) [] = U at *
    dsimp only at hz ht d1 d2
    walk_at "ss"
    dsimp only [List.set]
    refine while_p (fun m σ H9 => ∃ r : Nat, σ = [some (.ref a), some (.ref u), some (.ref z), some (.ref D), some (.int (i0 : Int)), some (.int (r : Int))] ∧ H9 = H' ∧ r ≤ U.length ∧ (∀ (j : Nat) (x : Int), U[j]? = some x → j < r → c < x) ∧ m = U.length - r)
      (fun σ H9 => σ = [some (.ref a), some (.ref u), some (.ref z), some (.ref D), some (.int (i0 : Int)), some (.int (freeR U c : Int))] ∧ H9 = H')
      ⟨0, rfl, rfl, Nat.zero_le _, by intro j x _ h; omega, rfl⟩ ?_ ?_ ?_
    · rintro m σ H9 ⟨r, rfl, rfl, rl, rs, rfl⟩
      walk_at "ss"
      rw [List.length_map]
      refine ite_d (fun lt => ?_) fun ge => ?_
      · have lt : r < U.length := by omega
        have hx := List.getElem?_eq_getElem lt
        have hat : atI (U.map V.int) (r : Int) = some (.int U[r]) := atI_nat (by rw [List.getElem?_map, hx]; rfl)
        walk_at "ss"
        refine ite_d (fun gt => ?_) fun le => ?_
        · walk_at "ss"
          refine ⟨U.length - (r + 1), by omega, r + 1, rfl, rfl, by omega, fun j x hj l => ?_, rfl⟩
          by_cases e : j = r
          · rw [e, hx] at hj
            have := Option.some.inj hj
            omega
          · exact rs j x hj (by omega)
        · rw [freeR_eq U c rs (.inr ⟨_, hx, by omega⟩)]
          exact ⟨rfl, rfl⟩
      · rw [freeR_eq U c rs (.inl (by omega))]
        exact ⟨rfl, rfl⟩
    · intro σ H Q Q' h q
      obtain ⟨v, e1, w, e2, p, xs, e3, e4, i, j, e5, e6, b, e7, r⟩ := q
      refine ⟨v, e1, w, e2, p, xs, e3, e4, i, j, e5, e6, b, e7, ?_⟩
      cases b with
      | false => exact h _ _ r
      | true =>
        obtain ⟨w1, a1, w2, a2, l1, xs1, n1, v1, b1, b2, b3, b4, w3, a3, l3, xs3, n3, v3, c1, c2, c3, c4, i5, j5, f1, f2, b5, f3, r⟩ := r
        exact ⟨w1, a1, w2, a2, l1, xs1, n1, v1, b1, b2, b3, b4, w3, a3, l3, xs3, n3, v3, c1, c2, c3, c4, i5, j5, f1, f2, b5, f3, h _ _ r⟩
    · rintro σ H9 ⟨rfl, rfl⟩
      dsimp only
      have fl := freeR_le U c
      obtain ⟨r, er⟩ : ∃ r, r = freeR U c := ⟨_, rfl⟩
      have ep : putR U c g = if r < U.length then U.set r g else U ++ [g] := by rw [er]; rfl
      rw [← er] at d1 fl ⊢
      rw [ep] at d2
      clear ep er
      with_reducible refine jn (P := fun σ H1 => ∃ W : List Int, σ = [some (.ref a), some (.ref u), some (.ref z), some (.ref D), some (.int (i0 : Int)), some (.int (r : Int))] ∧ Same H H1 ∧ H1 p4 = some (.lst zs) ∧ SjsAt H1 zs us ∧ H1 z = some (.tup [.int c, .int g]) ∧ H1 u = some (.lst (W.map V.int)) ∧ H1 D = some (.lst (rmV F)) ∧ r < W.length ∧ W.set r g = if r < U.length then U.set r g else U ++ [g]) ?_ fun N hN => ?_
      · clear sm h4 hZ hD hz ht hu
        rintro σ H1 ⟨W, rfl, sm, h4, hZ, hz, hu, hD, lr, eW⟩
        have lF2 : i0 < (rmV F).length := by unfold rmV; rw [List.length_map]; omega
        walk_at "ss"
        refine g_setL hu (ixZ (by omega) (by rw [List.length_map]; omega)) ?_
        have hD2 : (upd H1 u (.lst ((W.map V.int).set (Int.toNat r) (.int g)))) D = some (.lst (rmV F)) := at_ne nu hD
        walk_at "ss"
        refine g_setL hD2 (ixZ (by omega) (by omega)) ?_
        refine ⟨_, _, _, F.set i0 r, rfl, ?_, ?_, ?_, ?_, ?_, ?_, ?_⟩
        · exact sm_own fD (sm_own fu sm)
        · exact at_ne n2 (at_ne n1 h4)
        · exact sjs_tk ((tk_put hu).trans (tk_put hD2)) hZ
        · refine at_ne nu.symm ?_
          rw [upd_same, d2, ← eW, List.map_set]
          rfl
        · rw [upd_same]
          unfold rmV
          rw [List.map_set]
          rfl
        · rw [List.length_set, lF]
        · intro j q' hj hq'
          by_cases e : j = k
          · subst e
            rw [hq] at hq'
            cases hq'
            rw [d1]
            simp [List.getElem?_set_self (show i0 < F.length by omega)]
          · have ne : q'.2 ≠ (i0 : Int) := fun z => e (eone hq' hq z)
            obtain ⟨i1, -, e1, -⟩ := emem q' (List.mem_of_getElem? hq')
            rw [List.getElem?_set_ne (by omega)]
            exact fill j q' (by omega) hq'
      · walk_at "ss"
        rw [List.length_map, int_eq]
        refine ite_d (fun eq => ?_) fun ne => ?_
        · walk_at "ss"
          have er : r = U.length := by omega
          refine hN _ _ ⟨U ++ [0], rfl, sm_own fu sm, at_ne n1 h4, sjs_tk (tk_put hu) hZ, ?_, ?_, at_ne nu hD, by simp [er], by simp [er]⟩
          · refine at_ne (fun z => ?_) hz
            rw [z, hu] at hz
            cases hz
          · rw [upd_same, List.map_append]
            rfl
        · walk_at "ss"
          have l : r < U.length := by omega
          exact hN _ _ ⟨U, rfl, sm, h4, hZ, hz, hu, hD, l, by rw [if_pos l]⟩
  · rintro σ H' ⟨v2, v4, v5, F, rfl, sm, h4, hZ, hu, hD, lF, fill⟩
    walk_at "ss"
    exact q D H' F sm fD hD ⟨lF, fun j q' hq' => fill j q' (by rw [zl, ← ul]; exact (List.getElem?_eq_some_iff.mp hq').1) hq'⟩
/-! YSt: sorted(set(xs)), xs a list of whole numbers, any number of them. -/
open PySem PySem.Spec PyProof.Rows L2
/-- an empty set as it is made -/
abbrev ES (w : World) : Obj := { cls := .type "set", dict := none, data := .set #[] 0 (.fresh 0 0 (!w.params.followText "set-order")) }
section
variable {P : Program} {w : World} {A : Around} {E : Value → Shared → Prop} {s : Shared}
set_option maxHeartbeats 8000000 in
theorem set_ofL {l : Addr} {xs : Array Value} (ns : List Int) {Q : Value → Shared → Prop} (hh : A.handled = none) (hl : s.heap.IsList l xs) (hi : IntsAre xs.toList ns) (few : ns.length + 1 < scanBound)
    (q : ∀ (h' : Heap) (tk c : Nat), c ≤ ns.length → SetR w h' s.heap.objs.size (fun j => decide (j ∈ ns)) c → (∀ b o, s.heap.get? b = some o → h'.get? b = some o) → Q (.ref s.heap.objs.size) { s with heap := h', toks := tk }) :
    wpAny (model P w) A (call (.type "set") [.ref l]) Q E s := by
  have sz : xs.size = ns.length := by rw [← hi.length, Array.length_toList]
  have ⟨c0, t0, h0⟩ := F.called_set.mro
  have hm := F.called_set.made
  have hs := F.called_set.sub
  refine wpAny_call (codeAny_of_tree (wpAny_pure ⟨Code.quiet_builtin _ (by decide +kernel), codeAny_builtin F.entry_type_call ?_⟩))
  rw [Around.under_plain (weight_type_call_type "set" [.ref l] []) rfl]
  have hn := F.called_set.notType
  have hc := F.called_set.canCreate
  have ht := F.typeCall_set_1 (.ref l)
  repeat any_goals first | assumption | wp_step
  refine codeAny_mono (code_set_led1 (.ref l) (E := E) (Q₁ := fun v s1 => v = .ref s.heap.objs.size ∧ s1 = { s with heap := s.heap.push (ES w) }) ⟨rfl, rfl⟩) fun r s1 hr => ?_
  cases r with
  | error e => exact hr
  | ok fl => cases fl with
  | ret v =>
    obtain ⟨rfl, rfl⟩ := hr
    have at0 : (s.heap.push (ES w)).get? s.heap.objs.size = some (ES w) := Heap.get?_push_size _ rfl
    have ty0 : Shared.TypeIs { s with heap := s.heap.push (ES w) } (.ref s.heap.objs.size) "set" := ⟨_, at0, rfl⟩
    have i1 := F.called_set.init.lookup
    have i2 := F.called_set.init.bind (.ref s.heap.objs.size)
    repeat any_goals first | assumption | wp_step
    refine codeAny_mono (codeAny_call_builtin (R := wants (fun r s2 => r = .none ∧ ∃ h' tk c, s2 = { s with heap := h', toks := tk } ∧ c ≤ ns.length ∧ SetR w h' s.heap.objs.size (fun j => decide (j ∈ ns)) c ∧ ∀ b o, s.heap.get? b = some o → h'.get? b = some o) E)
      F.called_set.init.plain F.entry_set_init (check_set_init_1 ty0 ?_)) fun r s2 hr => ?_
    · obtain ⟨⟨oc, od, oa, os⟩, ho, e1, nl, e2⟩ := hl
      cases e1
      cases e2
      have hl1 : (s.heap.push (ES w)).IsList l xs := ⟨_, Heap.get?_push_of_some _ ho, rfl, nl, rfl⟩
      have ho1 : (s.heap.push (ES w)).get? l = some { cls := .type "list", dict := od, data := .seq xs nl, slots := os } := Heap.get?_push_of_some _ ho
      have s1 := F.sub_list_set
      have s2 := F.sub_list_frozenset
      have nd : (Value.type "list" == Value.type "dict") = false := by decide
      unfold Builtin.«set.__init__» noKeywords Builtin.Frozenset.updateFrom
      generalize hPI : pyIter = PI
      wp_walk
      subst hPI
      refine wpAny_pyIter_list hl1 (wpAny_bind (wpAny_runValue ?_))
      have lt : l < s.heap.objs.size := Heap.lt_size ho
      have n1 : l ≠ (s.heap.push (ES w)).objs.size := by rw [Heap.size_push]; exact Nat.ne_of_lt (Nat.lt_succ_of_lt lt)
      have n2 : s.heap.objs.size ∉ [(s.heap.push (ES w)).objs.size, l] := by
        rw [Heap.size_push]
        intro z
        rcases List.mem_cons.mp z with z | z
        · exact absurd z (Nat.ne_of_lt (Nat.lt_succ_self _))
        · exact absurd (List.mem_singleton.mp z) (Nat.ne_of_gt lt)
      refine set_update_ints ((Walks.list (A := A.in1.in1.in1) (by simp [hh]) _ l n1 xs).toS) s.heap.objs.size n2 ns sz few (fun i v hv => ?_) (xs.size - 0) 0 _ (by omega) (Nat.zero_le _) ⟨⟨_, Heap.get?_push_size _ rfl, rfl, rfl⟩, hl1.push _⟩ ⟨0, Nat.le_refl 0, setR_new_at (Heap.get?_push_of_some _ at0)⟩ ?_
      · have lti : i < ns.length := sz ▸ (Array.getElem?_eq_some_iff.mp hv).1
        obtain ⟨t, e⟩ := PyProof.Rows.IntsAre.int_at hi i v (by rw [Array.getElem?_toList, hv])
        rw [List.getD_eq_getElem?_getD, List.getElem?_eq_getElem lti] at e
        exact ⟨_, t, List.getElem?_eq_getElem lti, e⟩
      · rintro ⟨h', g', d', tk', os'⟩ c mv hc R
        cases (show g' = s.gens from mv.gens)
        cases (show d' = s.drawn from mv.drawn)
        cases (show os' = s.os from mv.os)
        show wpAny _ _ _ _ _ _
        refine wpAny_pure ?_
        show wpAny _ _ (ret Value.none) _ _ _
        refine wpAny_pure ⟨rfl, h', tk', c, rfl, by omega, R, fun b o e => ?_⟩
        have lb : b < s.heap.objs.size := Heap.lt_size e
        refine mv.heap b o (fun z => ?_) (Heap.get?_push_of_some _ (Heap.get?_push_of_some _ e))
        rcases List.mem_cons.mp z with z | z
        · exact absurd z (Nat.ne_of_lt lb)
        · have z := List.mem_singleton.mp z
          rw [Heap.size_push] at z
          exact absurd z (Nat.ne_of_lt (Nat.lt_succ_of_lt lb))
    · cases r with
      | error e => exact hr
      | ok fl => cases fl with
      | ret v =>
        obtain ⟨rfl, h', tk, c, rfl, hc, R, k⟩ := hr
        repeat any_goals first | assumption | wp_step
        exact q _ _ _ hc R k
      | _ => exact hr.elim
  | _ => exact hr.elim
theorem sort_set {a : Addr} {S : Int → Bool} {n : Nat} {Q : Value → Shared → Prop} (R : SetR w s.heap a S n) (hh : A.handled = none) (few : n ≤ 4000)
    (q : ∀ s' p (out : List Value) (c : Nat) (ns : List Int), (∀ b o, s.heap.get? b = some o → s'.heap.get? b = some o) → s'.gens = s.gens → s'.os = s.os → s.heap.objs.size ≤ p →
      s'.heap.get? p = some (seqObj "list" out.toArray c) → IntsAre out ns → ns.Pairwise (· < ·) → (∀ k, k ∈ ns ↔ S k = true) → ns.length = n → Q (.ref p) s') :
    wpAny (model P w) A (call (.builtin "sorted") [.ref a]) Q E s := by
  obtain ⟨o, es, ep, t, ho, ⟨ho1, -⟩, hd, g, nd, hm, hb, hf, hn, hr, hl⟩ := R
  refine Calls.call_function_entry kind_sorted plain_sorted entry_sorted (args_sorted1 _) ?_
  unfold Builtin.«sorted»
  refine wpAny_bind (m := checkCount "sorted" 1 1 _) (wpAny_pure (wpAny_bind (collect_set (A := A.in1) hh ⟨o, ho, ho1, hd⟩ hf hb hr hl fun s1 vs k1 hz g1 o1 pm => ?_)))
  have lv : vs.length = n := by rw [pm.length_eq, List.length_map, Array.length_toList]; exact hn
  have lz : vs.length ≤ sizeLine := by rw [lv, sizeLine_eq]; omega
  have iv : IntsAre vs (vs.map Builtin.Re.reRawOf) := ints_of vs fun v hv => by
    obtain ⟨e, he, rfl⟩ := List.mem_map.mp (pm.mem_iff.mp hv)
    obtain ⟨k, tk, h1, -⟩ := g e he
    exact ⟨k, tk, h1⟩
  have pk : (vs.map Builtin.Re.reRawOf).Perm (es.toList.map keyOf) := by
    have := pm.map Builtin.Re.reRawOf
    rw [List.map_map] at this
    exact this
  have hoL : (s1.heap.push (seqObj "list" vs.toArray 0)).get? s1.heap.objs.size = some (seqObj "list" vs.toArray 0) := Heap.get?_push_size _ rfl
  refine wpAny_bind (wpAny_newList (wpAny_bind (wpAny_holding (wpAny_call_entry slot_list_sort ⟨_, hoL, rfl⟩ entry_list_sort
    (SrtO.list_sort_ord SrtO.swo_int hoL lz (fun h2 => SrtO.ints_sortable iv h2) fun out h1 h2 => ⟨_, rfl, ?_⟩) (args_list_sort _)))) lz)
  obtain ⟨i1, i2, i3⟩ := SrtO.ints_out iv h1 h2
  obtain ⟨c, hc⟩ := PyProof.Rows.sortedHeap_at (vs := vs) (out := out.toArray) hoL
  have pn := i2.trans pk
  refine wpAny_pure ⟨_, rfl, q _ s1.heap.objs.size out c _ (fun b u e => ?_) g1 o1 hz hc i1 (lt_of_le_nodup _ i3 (pn.nodup_iff.mpr nd)) (fun k => by rw [pn.mem_iff, ← hm k]) ?_⟩
  · have e1 := k1 b u e
    have lt := Heap.lt_size e1
    show (sortedHeap (s1.heap.push (seqObj "list" vs.toArray 0)) s1.heap.objs.size vs out.toArray).get? b = some u
    rw [PyProof.Rows.sortedHeap_old (Nat.ne_of_lt lt) (by rw [size_push']; exact Nat.lt_succ_of_lt lt)]
    exact Heap.get?_push_of_some _ e1
  · rw [pn.length_eq, List.length_map, Array.length_toList, hn]
end
/-- sorted(set(xs)) -/
def tSortSet (K : PySem.W.Frag) (ta : TE) : TE := fun σ H Q => ta σ H fun x H1 => ∃ (l : Addr) (ns : List Int), x = .ref l ∧ SqL K H1 l (ns.map V.int) ∧ ns.length ≤ 4000 ∧
  ∀ (out : List Int) (p : Addr), Fr H1 p → out.Pairwise (· < ·) → out.length ≤ ns.length → (∀ k, k ∈ out ↔ k ∈ ns) → Q (.ref p) (upd H1 p (.lst (out.map V.int)))
theorem pe_sortSet {X : Cx} {a : Expr} {ta : TE} {p p2 q pos : Pos} (hg : Gl X "sorted") (hm : X.mg "sorted" = none) (hg2 : Gl X "set") (hm2 : X.mg "set" = none) (ha : PE X a ta) (hc : X.calm = true := by rfl)
    (na : starEach [a] X.env = (false, eval a X.env) :: starEach [] X.env := by rfl) : PE X (.Call (.Name "sorted" p) [.Call (.Name "set" p2) [a] [] q] [] pos) (tSortSet X.K ta) := by
  refine ⟨fun pins s σ H Q I h => Call_ (ld_blt I hg hm boot_sorted (PyProof.Rows.callWith_builtin1 (PyProof.Rows.args_cons ?_ rfl) rfl rfl))⟩
  refine Call_ (ld_blt I hg2 hm2 PyProof.Rows.boot_set (PyProof.Rows.callWith_type1 (PyProof.Rows.args_cons (thn (ha.run pins s σ H _ I h) fun v s1 ⟨x, H1, I1, r1, q1⟩ => PyProof.Rows.args_nil ?_) na) na rfl))
  obtain ⟨l, ns, rfl, hq, hl, q1⟩ := q1
  cases r1
  obtain ⟨its, r, pl, hz⟩ := I1.list hq
  refine set_ofL ns (I1.ok.hd hc) pl.isList (by simpa using r.ints) (by unfold scanBound; omega) fun h' tk c lc R k => PyProof.Rows.args_nil ?_
  have I2 : Inv X pins σ H1 { s1 with heap := h', toks := tk } := I1.kept fun b o e => k b o e
  refine sort_set (s := { s1 with heap := h', toks := tk }) R (I2.ok.hd hc) (by omega) fun s' p out c' ms k2 g o hp hg' hi hs hm' hl' => ?_
  have few : (ms.map V.int).length ≤ sizeLine := by rw [List.length_map, hl', sizeLine_eq]; omega
  have hn : H1 p = none := I2.hok.fresh hp
  have J : Inv X pins σ (upd H1 p (.lst (ms.map V.int))) { ({ s1 with heap := h', toks := tk } : Shared) with heap := s'.heap, gens := s'.gens, drawn := s'.drawn, toks := s'.toks } :=
    I2.call (ch := []) (Un.laid k2 hp hn) (I2.hok.laid k2 hp ⟨few, out, c', vals_of_ints hi, hg'⟩) (by rw [g]; exact I2.bare) (fun _ z => nomatch z)
  have e : s' = { s1 with heap := s'.heap, gens := s'.gens, drawn := s'.drawn, toks := s'.toks } := by
    cases s'
    cases s1
    cases o
    rfl
  rw [e]
  exact ⟨.ref p, _, J, rfl, q1 ms p hn hs (by omega) fun j => by rw [hm', decide_eq_true_eq]⟩
theorem g_sortSet {K : PySem.W.Frag} {n : Nat} {l : Addr} {ns : List Int} {σ : L2.St} {H : Hp} {Q : VK} (e : σ[n]? = some (some (.ref l))) (h : SqL K H l (ns.map V.int)) (z : ns.length ≤ 4000) (q : ∀ (out : List Int) (p : Addr), Fr H p → out.Pairwise (· < ·) → out.length ≤ ns.length → (∀ k, k ∈ out ↔ k ∈ ns) → Q (.ref p) (upd H p (.lst (out.map V.int)))) : tSortSet K (tVar n) σ H Q :=
  ⟨_, e, l, ns, rfl, h, z, q⟩
/-! Y9 (second family): drawn rules, days, stays. -/
open PySem PySem.Spec PyProof.Rows L2
def sp_Lcoins (K : PySem.W.Frag) : Sp := Sp1 fun x H Q E => ∃ (t b s : Addr), x = .ref t ∧ Tape H t b s ∧ ∀ (i : Int) (H' : Hp), Tape H' t b s → Kp [t, b] H H' → 0 ≤ i → i ≤ 1000000000000 → Q (.int i) H'
def sp_Lworth (K : PySem.W.Frag) : Sp := Sp2 fun x y H Q E => ∃ (t b s : Addr) (w : Wd), x = .ref t ∧ y = .str w.word ∧ Tape H t b s ∧ ∀ (v : V) (d : PyData) (H' : Hp), Tape H' t b s → Kp [t, b] H H' → Td H' v d → fitsD w d = true → Q v H'
def sp_Lrule (K : PySem.W.Frag) : Sp := Sp2 fun x y H Q E => ∃ (t b s : Addr) (m : Int), x = .ref t ∧ y = .int m ∧ Tape H t b s ∧ 0 ≤ m ∧ m ≤ 1000000 ∧ ∀ (v : V) (r : RuleD) (H' : Hp), Tape H' t b s → Kp [t, b] H H' → RuT H' v r → r.good → Q v H'
def sp_Lday (K : PySem.W.Frag) : Sp := Sp1 fun x H Q E => ∃ (t b s : Addr), x = .ref t ∧ Tape H t b s ∧ ∀ (i : Int) (H' : Hp), Tape H' t b s → Kp [t, b] H H' → 0 ≤ i → i ≤ 999989 → Q (.int i) H'
theorem g_Lday {K : PySem.W.Frag} {t b s : Addr} {H : Hp} {Q : VK} {E : XK} (T : Tape H t b s) (q : ∀ (i : Int) (H' : Hp), Tape H' t b s → Kp [t, b] H H' → 0 ≤ i → i ≤ 999989 → Q (.int i) H') : sp_Lday K ([.ref t] ++ []) H Q E := ⟨_, rfl, t, b, s, rfl, T, q⟩
def t_Lday (K : PySem.W.Frag) : TS :=
  (tRet (tOp (rIxL K) (tLst (tCons (tC (.int 0)) (tCons (tCall (sp_Ltake K) [] E0 (tCons (tVar 0) (tCons (tC (.int 5)) tNil))) (tCons (tC (.int 40)) (tCons (tOp rAdd (tC (.int 999980)) (tCall (sp_Ltake K) [] E0 (tCons (tVar 0) (tCons (tC (.int 10)) tNil)))) (tCons (tCall (sp_Ltake K) [] E0 (tCons (tVar 0) (tCons (tC (.int 999980)) tNil))) tNil)))))) (tCall (sp_Ltake K) [] E0 (tCons (tVar 0) (tCons (tC (.int 5)) tNil)))))
theorem pure_Lday {K : PySem.W.Frag} {x : V} {H : Hp} {Q : VK} {E : XK} (h : sp_Lday K [x] H Q E) : t_Lday K { nx := fun _ H' => Q .non H', rt := Q } [some x] H := by
  obtain ⟨x, e, t, b, s, rfl, T, q⟩ := h
  cases e
  unfold t_Lday
  walk_at "ss"
  rename_i a1 H1 a10 a11 T1 k1 a2 H2 a20 a21 T2 k2 a3 H3 a30 a31 T3 k3 p hp a4 H4 a40 a41 T4 k4 v hv
  refine q _ _ T4 (by walk_at "kp") (by omega) (by omega)
/-! YLs: drawn stays (second family). -/
open PySem PySem.Spec PyProof.Rows L2
def sp_Lstay (K : PySem.W.Frag) : Sp := Sp2 fun x y H Q E => ∃ (t b s : Addr) (m : Int), x = .ref t ∧ y = .int m ∧ Tape H t b s ∧ 0 ≤ m ∧ ∀ (p : Addr) (c g : Int) (H' : Hp), Tape H' t b s → Kp [t, b] H H' → Fr H p → H' p = some (.tup [.int c, .int g]) → StayB c g → Q (.ref p) H'
theorem g_Lstay2 {K : PySem.W.Frag} {t b s : Addr} {m : Int} {H : Hp} {Q : VK} {E : XK} (T : Tape H t b s) (h0 : 0 ≤ m) (q : ∀ (p : Addr) (c g : Int) (H' : Hp), Tape H' t b s → Kp [t, b] H H' → Fr H p → H' p = some (.tup [.int c, .int g]) → StayB c g → Q (.ref p) H') : sp_Lstay K ([.ref t, .int m] ++ []) H Q E := ⟨_, _, rfl, t, b, s, m, rfl, rfl, T, h0, q⟩
def t_Lstay (K : PySem.W.Frag) : TS :=
  (tSeq (tAsg (tCB rMin2 (tCons (tOp rSub (tOp rPow (tC (.int 10)) (tC (.int 6))) (tC (.int 1))) (tCons (tOp rAdd (tVar 1) (tCall (sp_Ltake K) [] E0 (tCons (tVar 0) (tCons (tC (.int 4)) tNil)))) tNil))) (gName 2))
  (tSeq (tAsg (tOp rAdd (tC (.int 1)) (tOp (rIxL K) (tLst (tCons (tCall (sp_Ltake K) [] E0 (tCons (tVar 0) (tCons (tC (.int 4)) tNil))) (tCons (tCall (sp_Ltake K) [] E0 (tCons (tVar 0) (tCons (tC (.int 14)) tNil))) (tCons (tC (.int 13)) tNil)))) (tOp rDivW (tCall (sp_Ltake K) [] E0 (tCons (tVar 0) (tCons (tC (.int 5)) tNil))) (tC (.int 2))))) (gName 3))
  (tRet (tTup (tCons (tVar 2) (tCons (tCB rMin2 (tCons (tOp rPow (tC (.int 10)) (tC (.int 6))) (tCons (tOp rAdd (tVar 2) (tVar 3)) tNil))) tNil))))))
theorem pure_Lstay {K : PySem.W.Frag} {x y : V} {H : Hp} {Q : VK} {E : XK} (h : sp_Lstay K [x, y] H Q E) : t_Lstay K { nx := fun _ H' => Q .non H', rt := Q } [some x, some y, none, none] H := by
  obtain ⟨x, y, e, t, b, s, m, rfl, rfl, T, h0, q⟩ := h
  cases e
  unfold t_Lstay
  walk_at "ss"
  rename_i a1 H1 a10 a11 T1 k1 a2 H2 a20 a21 T2 k2 a3 H3 a30 a31 T3 k3 p1 hp1 a4 H4 a40 a41 T4 k4 v hv p2 hp2
  rw [mni, mni]
  have hfr : Fr H p2 := fr_kp hp2 (by walk_at "kp") (ni_tape hp2 T4)
  exact q p2 (min (1000000 - 1) (m + a1)) (min 1000000 (min (1000000 - 1) (m + a1) + (1 + v))) _ (by walk_at "tp") (by walk_at "kp") hfr upd_same ⟨by omega, by omega, by omega, by omega⟩
/-! YB: what is a day, a stretch, coins, nights. -/
open PySem PySem.Spec PyProof.Rows L2
/-! YOs: shapes of rules' data. -/
open PySem PySem.Spec PyProof.Rows L2
/-! YRl: lists of rules in the heap (second family). -/
open PySem PySem.Spec PyProof.Rows L2
/-- a list of rules' tuples stands at v -/
def RlAt (H : Hp) (v : V) (rs : List RuleD) : Prop := ∃ q xs, v = .ref q ∧ H q = some (.lst xs) ∧ Rus H xs rs
/-! YLc: comprehensions whose items are lists or objects of their own. -/
open PySem PySem.Spec PyProof.Rows L2
/-- a book that stands apart from a list -/
def BkD (K : PySem.W.Frag) (D : Addr) (H : Hp) (v : V) (rs : List RuleD) : Prop := ∃ F, BookAt K H F v rs ∧ D ∉ F
/-- a list of rules' tuples, apart from a list -/
def RlD (D : Addr) (H : Hp) (v : V) (rs : List RuleD) : Prop := ∃ q xs, v = .ref q ∧ q ≠ D ∧ H q = some (.lst xs) ∧ Rus H xs rs
/-- a book that stands apart from a row of draws -/
def BkT (K : PySem.W.Frag) (t : Addr) (H : Hp) (v : V) (rs : List RuleD) : Prop := ∃ F, BookAt K H F v rs ∧ ∀ p ∈ F, p ∉ [t, t]
theorem BkT.kp {K : PySem.W.Frag} {t : Addr} {H H' : Hp} {v : V} {rs : List RuleD} (k : Kp [t, t] H H') (T : Tape H t t t) (h : BkT K t H v rs) : BkT K t H' v rs := let ⟨F, h, n⟩ := h; ⟨F, bk_kp k T n h, n⟩
def BkDT (K : PySem.W.Frag) (t : Addr) (D : Addr) (H : Hp) (v : V) (rs : List RuleD) : Prop := ∃ F, BookAt K H F v rs ∧ D ∉ F ∧ ∀ p ∈ F, p ∉ [t, t]
/-! k76: rooms dealt. -/
open PySem PySem.Spec PyProof.Rows L2
def StayP (p : Pr) : Prop := StayB p.1 p.2
def sp_Lstays (K : PySem.W.Frag) : Sp := Sp1 fun x H Q E => ∃ (t b s : Addr), x = .ref t ∧ Tape H t b s ∧ ∀ (p : Addr) (ys : List V) (ps : List Pr) (H' : Hp), Tape H' t b s → Kp [t, b] H H' → Fr H p → H' p = some (.lst ys) → PrsAt H' ys ps → ps.length ≤ 40 → (∀ q ∈ ps, StayP q) → Q (.ref p) H'
theorem g_Lstays {K : PySem.W.Frag} {t b s : Addr} {H : Hp} {Q : VK} {E : XK} (T : Tape H t b s) (q : ∀ (p : Addr) (ys : List V) (ps : List Pr) (H' : Hp), Tape H' t b s → Kp [t, b] H H' → Fr H p → H' p = some (.lst ys) → PrsAt H' ys ps → ps.length ≤ 40 → (∀ q ∈ ps, StayP q) → Q (.ref p) H') : sp_Lstays K ([.ref t] ++ []) H Q E := ⟨_, rfl, t, b, s, rfl, T, q⟩
def sp_Lright (K : PySem.W.Frag) : Sp := Sp2 fun x y H Q E => ∃ (a p : Addr) (xs : List V) (ps : List Pr) (F : List Nat) (n : Nat), x = .ref a ∧ y = .ref p ∧ SqL K H a xs ∧ PrsAt H xs ps ∧ H p = some (.lst (rmV F)) ∧ F.length = ps.length ∧ ps.length ≤ 40 ∧ (∀ q ∈ ps, StayP q) ∧ Rooms n (ps.zip F) ∧ ∀ H', Same H H' → Q (.bl true) H'
theorem g_Lright {K : PySem.W.Frag} {a p : Addr} {xs : List V} {ps : List Pr} {F : List Nat} {n : Nat} {H : Hp} {Q : VK} {E : XK} (h : SqL K H a xs) (hp : PrsAt H xs ps) (hf : H p = some (.lst (rmV F))) (l : F.length = ps.length) (z : ps.length ≤ 40) (st : ∀ q ∈ ps, StayP q) (r : Rooms n (ps.zip F)) (q : ∀ H', Same H H' → Q (.bl true) H') : sp_Lright K ([.ref a, .ref p] ++ []) H Q E := ⟨_, _, rfl, a, p, xs, ps, F, n, rfl, rfl, h, hp, hf, l, z, st, r, q⟩
theorem g_insV {H : Hp} {Q : VK} {l : Addr} {xs : List V} {i : Int} {y : V} (h : H l = some (.lst xs)) (z : xs.length < sizeLine) (h0 : 0 ≤ i) (h1 : i < 2 ^ 63) (q : Q .non (upd H l (.lst (xs.take i.toNat ++ [y] ++ xs.drop i.toNat)))) : rInsert (.ref l) [.int i, y] H Q := ⟨l, xs, i, y, rfl, rfl, h, z, h0, h1, q⟩
def t_Lright (K : PySem.W.Frag) : TS :=
  (tSeq (tIfS (tOr (tNot (tB (tCB (rIsi K) (tCons (tVar 1) (tCons (tC (.ty "list")) tNil))))) (tTest (tOp rNe (tCB (rLen K) (tCons (tVar 1) tNil)) (tCB (rLen K) (tCons (tVar 0) tNil)))))
  (tRet (tC (.bl false)))
  tNext)
  (tSeq (tIfS (tTest (tOp rGt (tCB (rLen K) (tCons (tLc (iList K (tVar 1)) (gName 2) (tOr (tB (tCB (rIsi K) (tCons (tVar 2) (tCons (tC (.ty "bool")) tNil)))) (tNot (tB (tCB (rIsi K) (tCons (tVar 2) (tCons (tC (.ty "int")) tNil)))))) (tVar 2) [2]) tNil)) (tC (.int 0))))
  (tRet (tC (.bl false)))
  tNext)
  (tSeq (tAsg (tLst tNil) (gName 3))
  (tSeq (tFor (iZip K (tCons (tVar 0) (tCons (tVar 1) tNil))) (gTup K 2 (gCons (gTup K 2 (gCons (gName 4) (gCons (gName 5) gNil))) (gCons (gName 2) gNil)))
  (tDrop (tBM K "list" rExtend (tVar 3) (tCons (tLc (iRng2 (tCons (tVar 4) (tCons (tVar 5) tNil))) (gName 8) tYes (tTup (tCons (tVar 8) (tCons (tVar 2) tNil))) [8]) tNil))))
  (tSeq (tIfS (tTest (tOp rNe (Y.tLenSetT K (tVar 3)) (tCB (rLen K) (tCons (tVar 3) tNil))))
  (tRet (tC (.bl false)))
  tNext)
  (tSeq (tAsg (tLc (iList K (tVar 3)) (gTup K 2 (gCons (gName 8) (gCons (gName 2) gNil))) tYes (tVar 8) [8, 2]) (gName 6))
  (tSeq (tAsg (tCKw (Y.rMaxD K) (tCons (tLc (iList K (Y.tSortSet K (tVar 6))) (gName 8) tYes (tBM K "list" (rCntV K) (tVar 6) (tCons (tVar 8) tNil)) [8]) tNil) (tCons (tC (.int 0)) tNil)) (gName 7))
  (tRet (tOp (rEqD K) (Y.tSortSet K (tVar 1)) (tLstRg (tRg1 (tVar 7))))))))))))
theorem pure_Lright {K : PySem.W.Frag} {x y : V} {H : Hp} {Q : VK} {E : XK} (h : sp_Lright K [x, y] H Q E) : t_Lright K { nx := fun _ H' => Q .non H', rt := Q } ([some x, some y] ++ List.replicate 7 none) H := by
  obtain ⟨x, y, e, a, p, xs, ps, F, n, rfl, rfl, hS, hP, hF, lF, z, st, R, q⟩ := h
  cases e
  dsimp only [List.replicate, List.append, List.cons_append, List.nil_append]
  unfold t_Lright
  have xl := Paired.length hP
  have vl : (rmV F).length = ps.length := by unfold rmV; rw [List.length_map, lF]
  walk_at "ss"
  refine ite_f (by simp [lF, xl, rmV]) ?_
  walk_at "ss"
  refine lc_flt (f := fun _ => none) (SqL.of hF) (by omega) ?_ ?_
  · rintro D i x N acc hD hi hx ha - hN
    unfold rmV at hx
    rw [List.getElem?_map] at hx
    obtain ⟨r, hr, rfl⟩ := Option.map_eq_some_iff.mp hx
    walk_at "ss"
    exact hN rfl
  intro D hD
  have e0 : (rmV F).filterMap (fun _ => (none : Option V)) = [] := List.filterMap_eq_nil_iff.mpr fun _ _ => rfl
  rw [e0]
  walk_at "ss"
  refine ite_f (by decide) ?_
  walk_at "ss"
  rename_i nl hnl
  have sG : Same H (upd (upd H D (.lst [])) nl (.lst [])) := by walk_at "sm"
  have hG : (upd (upd H D (.lst [])) nl (.lst [])) nl = some (.lst []) := upd_same
  have fG : Fr H nl := by walk_at "fr"
  generalize upd (upd H D (.lst [])) nl (.lst []) = G at sG hG ⊢
  clear hnl hD e0
  have hS1 := Same.seq sG hS
  have hF1 := sG _ _ hF
  walk_at "ss"
  have vz : xs.length = min xs.length (rmV F).length := by omega
  refine for_it (walk_zip (K := K) (a := a) (b := p) (xs := xs) (ys := rmV F) vz) (fun k σ H' => ∃ v2 v4 v5 Ns, σ = [some (.ref a), some (.ref p), v2, some (.ref nl), v4, v5, none, none, none] ∧ Same H H' ∧ H' nl = some (.lst Ns) ∧ PrsAt H' Ns (nightsT ((ps.zip F).take k)))
    ⟨_, _, _, [], rfl, sG, hG, .nil⟩ (fun i σ H' _ h => by obtain ⟨_, _, _, _, _, h, _⟩ := h; exact ⟨Same.seq h hS, SqL.of (h _ _ hF)⟩) ?_ ?_
  · clear hF1 hS1 hG sG
    rintro k x σ H' H2 hi ⟨v2, v4, v5, Ns, rfl, sm, hn, hN⟩ ⟨T, x1, x2, rfl, hT, rfl, h1, h2⟩
    replace hT : Fr H' T := hT
    replace h1 : xs[k]? = some x1 := h1
    replace h2 : (rmV F)[k]? = some x2 := h2
    unfold rmV at h2
    rw [List.getElem?_map] at h2
    obtain ⟨r, hr, rfl⟩ := Option.map_eq_some_iff.mp h2
    obtain ⟨⟨c, g⟩, hc, t, rfl, ht⟩ := Paired.getL hP h1
    have ht1 := at_new (u := .tup [.ref t, .int (r : Int)]) hT (sm _ _ ht)
    have hn1 := at_new (u := .tup [.ref t, .int (r : Int)]) hT hn
    have sm1 : Same H (upd H' T (.tup [.ref t, .int (r : Int)])) := sm_new hT sm
    have hN1 := prs_new (o := .tup [.ref t, .int (r : Int)]) hT hN
    have hT1 : (upd H' T (.tup [.ref t, .int (r : Int)])) T = some (.tup [.ref t, .int (r : Int)]) := upd_same
    generalize upd H' T (.tup [.ref t, .int (r : Int)]) = H3 at ht1 hn1 sm1 hN1 hT1 ⊢
    clear hN hn sm hT
    dsimp only at ht1
    have sc := st _ (List.mem_of_getElem? hc)
    obtain ⟨c0, c1, c2, c3⟩ := sc
    dsimp only at c0 c1 c2 c3
    walk_at "ss"
    refine lc_r (walk_range (lo := c) (n := (g - c).toNat)) PrAt (fun _ _ _ _ e h => pr_tk e h) (fun i => some ((c + (i : Int), (r : Int)) : Pr)) (by omega) (fun _ _ => trivial) ?_ ?_
    · rintro D2 i x H5 H6 N hD2 hi s2 ⟨rfl, rfl⟩ hN2 -
      walk_at "ss"
      rename_i t2 ht2
      exact hN2 _ (c + (i : Int), (r : Int)) _ rfl (same_new ht2) ⟨t2, rfl, upd_same⟩
    intro D2 H5 ys hD2 s2 h2' hY
    have hn2 := s2 _ _ hn1
    have hN2 := prs_same s2 hN1
    have eY : (List.range (g - c).toNat).filterMap (fun i : Nat => some ((c + (i : Int), (r : Int)) : Pr)) = (days c g).map fun n => (n, (r : Int)) := by
      rw [List.filterMap_eq_map']
      unfold days
      rw [List.map_map]
      rfl
    rw [eY] at hY
    have lN := Paired.length hN2
    have l1 := nights_len ((ps.zip F).take k) fun q hq => (st q.1 (List.of_mem_zip (List.mem_of_mem_take hq)).1).2.2.1
    rw [List.length_take, List.length_zip, lF, Nat.min_self] at l1
    have lY := Paired.length hY
    rw [List.length_map, days_len] at lY
    have ez : (ps.zip F)[k]? = some ((c, g), r) := List.getElem?_zip_eq_some.mpr ⟨hc, hr⟩
    walk_at "ss"
    refine ⟨_, _, _, _, rfl, sm_own fG (sm1.trans s2), upd_same, ?_⟩
    rw [List.take_add_one, ez]
    have e : nightsT ((ps.zip F).take k ++ [((c, g), r)]) = nightsT ((ps.zip F).take k) ++ (days c g).map fun n => (n, (r : Int)) := by
      unfold nightsT
      rw [List.flatMap_append]
      simp
    show PrsAt _ _ (nightsT ((ps.zip F).take k ++ [((c, g), r)]))
    rw [e]
    exact prs_put hn2 (prs_app hN2 hY)
  · rintro σ H' ⟨v2, v4, v5, Ns, rfl, sm, hn, hN⟩
    rw [List.take_of_length_le (by rw [List.length_zip]; omega)] at hN
    obtain ⟨ks, e1, e2, e3⟩ := prs_keys (K := K) hN
    have nl14 := nights_len (ps.zip F) fun q hq => (st q.1 (List.of_mem_zip hq).1).2.2.1
    rw [List.length_zip, lF, Nat.min_self] at nl14
    have kl : ks.length = (nightsT (ps.zip F)).length := by
      have := congrArg List.length e3
      simpa using this
    have nsl := Paired.length hN
    refine ⟨_, rfl, nl, Ns, ks, rfl, SqL.of hn, e1, e2, by omega, fun m hm => ?_⟩
    have hm : m = ks.length := hm.mpr (by rw [e3]; exact keys_nodup (nights_nodup R.dis))
    subst hm
    walk_at "ss"
    rw [int_eq]
    refine ite_ndt (by omega) ?_
    walk_at "ss"
    clear e1 e2 e3
    refine lc_flt (f := fun x => some (.int (kOf H' x).1)) (SqL.of hn) (by omega) ?_ ?_
    · rintro D i x N acc hD hi hx ha hN' -
      obtain ⟨q', hq', t, rfl, ht⟩ := Paired.getL hN hx
      have ht1 := at_new (u := .lst acc) hD ht
      walk_at "ss"
      refine lc_leaf ha hi (hN' _ ?_)
      rw [kOf_at ⟨t, rfl, ht⟩]
    intro D hD
    have eD : Ns.filterMap (fun x => some (V.int (kOf H' x).1)) = ((nightsT (ps.zip F)).map (·.1)).map V.int := by
      rw [List.filterMap_eq_map', prs_map hN, List.map_map, List.map_map]
      rfl
    rw [eD]
    have sG : Same H (upd H' D (.lst (((nightsT (ps.zip F)).map (·.1)).map V.int))) := sm_new hD sm
    have hG : (upd H' D (.lst (((nightsT (ps.zip F)).map (·.1)).map V.int))) D = some (.lst (((nightsT (ps.zip F)).map (·.1)).map V.int)) := upd_same
    generalize upd H' D (.lst (((nightsT (ps.zip F)).map (·.1)).map V.int)) = G at sG hG ⊢
    clear hD eD hN hn sm
    walk_at "ss"
    unfold tCKw
    walk_at "ss"
    obtain ⟨ds, eds⟩ : ∃ ds, ds = (nightsT (ps.zip F)).map (·.1) := ⟨_, rfl⟩
    have dl : ds.length ≤ 560 := by rw [eds, List.length_map]; omega
    rw [← eds] at hG
    refine g_sortSet (n := 6) rfl (SqL.of hG) (by omega) fun out q6 hq6 so ol om => ?_
    have s6 : Same H (upd G q6 (.lst (out.map V.int))) := sm_new hq6 sG
    have h6 : (upd G q6 (.lst (out.map V.int))) q6 = some (.lst (out.map V.int)) := upd_same
    have hG6 := at_new (u := .lst (out.map V.int)) hq6 hG
    generalize upd G q6 (.lst (out.map V.int)) = G6 at s6 h6 hG6 ⊢
    clear hq6 hG sG
    walk_at "ss"
    refine lc_w (walk_list (K := K) (a := q6) (xs := out.map V.int)) (fun i => (out[i]?).bind fun d => some (V.int (ds.countP fun n => decide (n = d) : Nat))) (by rw [List.length_map]; omega) (fun H' s => SqL.of (s _ _ h6)) ?_ ?_
    · rintro D2 i x H5 H6 N hD2 hi s2 ⟨rfl, hx⟩ hN2 -
      rw [List.getElem?_map] at hx
      obtain ⟨d, hd, rfl⟩ := Option.map_eq_some_iff.mp hx
      have hG5 := s2 _ _ hG6
      walk_at "ss"
      refine g_cntV (SqL.of hG5) rfl (by rw [List.all_map]; exact List.all_eq_true.mpr fun _ _ => rfl) ?_
      have ec : ((ds.map V.int).countP fun z => eqV z (V.int d)) = ds.countP fun n => decide (n = d) := by
        rw [List.countP_map]
        congr 1
      rw [ec]
      refine hN2 _ _ ?_ (Same.refl _)
      rw [hd]
      rfl
    intro D2 H5 hD2 s2 h5
    rw [List.length_map, range_flt] at h5
    have e5 : out.filterMap (fun d => some (V.int (ds.countP fun n => decide (n = d) : Nat))) = (out.map fun d => ((ds.countP fun n => decide (n = d) : Nat) : Int)).map V.int := by
      rw [List.filterMap_eq_map', List.map_map]
      rfl
    rw [e5] at h5
    walk_at "ss"
    refine g_maxDE (SqL.of h5) fun m hm => ?_
    obtain rfl : m = n := by
      refine most_is R (ds := out) (fun k => by rw [om, eds]) ?_
      rw [← eds]
      rcases hm with ⟨e, h⟩ | h
      · exact .inl ⟨List.map_eq_nil_iff.mp e, h⟩
      · exact .inr h
    have s7 : Same H H5 := s6.trans s2
    have hF7 : H5 p = some (.lst ((F.map fun r : Nat => (r : Int)).map V.int)) := by
      rw [s7 _ _ hF]
      unfold rmV
      rw [List.map_map]
      rfl
    walk_at "ss"
    refine g_sortSet (n := 1) rfl (SqL.of hF7) (by rw [List.length_map]; omega) fun out2 q8 hq8 so2 ol2 om2 => ?_
    have e2 := rooms_range R lF so2 om2
    subst e2
    walk_at "ss"
    rw [List.length_map, List.length_map, List.length_range] at ol2
    refine ⟨⟨by omega, by omega, by omega, by omega, by omega⟩, fun q9 hq9 => ?_⟩
    have ed : days 0 (n : Int) = (List.range n).map fun i : Nat => (i : Int) := by
      unfold days
      rw [show ((n : Int) - 0).toNat = n by omega]
      exact List.map_congr_left fun i _ => by omega
    rw [rgV_days, ed]
    refine g_eqD_ints (SqL.of (at_new hq9 upd_same)) (SqL.of upd_same) ?_
    rw [decide_eq_true rfl]
    exact q _ (sm_new hq9 (sm_new hq8 s7))
def t_Lstays (K : PySem.W.Frag) : TS :=
  (tSeq (tAsg (tCall (sp_Lday K) [] E0 (tCons (tVar 0) tNil)) (gName 1))
  (tSeq (tAsg (tLst tNil) (gName 2))
  (tSeq (tFor (iRng1 (tCons (tOp (rIxL K) (tLst (tCons (tCall (sp_Ltake K) [] E0 (tCons (tVar 0) (tCons (tC (.int 41)) tNil))) (tCons (tCall (sp_Ltake K) [] E0 (tCons (tVar 0) (tCons (tC (.int 6)) tNil))) tNil))) (tCall (sp_Ltake K) [] E0 (tCons (tVar 0) (tCons (tC (.int 2)) tNil)))) tNil)) (gName 3)
  (tSeq (tAsg (tCall (sp_Lstay K) [] E0 (tCons (tVar 0) (tCons (tCB rMin2 (tCons (tC (.int 999999)) (tCons (tOp rAdd (tVar 1) (tCall (sp_Ltake K) [] E0 (tCons (tVar 0) (tCons (tC (.int 9)) tNil)))) tNil))) tNil))) (gName 4))
  (tSeq (tIfS (tAnd (tTest (tOp (rNeD K) (tVar 2) (tLst tNil))) (tTest (tOp rEq (tCall (sp_Ltake K) [] E0 (tCons (tVar 0) (tCons (tC (.int 4)) tNil))) (tC (.int 0)))))
  (tSeq (tAsg (tOp (rIxL K) (tVar 2) (tCall (sp_Ltake K) [] E0 (tCons (tVar 0) (tCons (tCB (rLen K) (tCons (tVar 2) tNil)) tNil)))) (gName 5))
  (tSeq (tAsg (tOp (rIxL K) (tLst (tCons (tVar 5) (tCons (tTup (tCons (tOp (rIxT K) (tVar 5) (tC (.int 1))) (tCons (tOp rAdd (tOp rAdd (tOp (rIxT K) (tVar 5) (tC (.int 1))) (tC (.int 1))) (tCall (sp_Ltake K) [] E0 (tCons (tVar 0) (tCons (tC (.int 14)) tNil)))) tNil))) tNil))) (tCall (sp_Ltake K) [] E0 (tCons (tVar 0) (tCons (tC (.int 2)) tNil)))) (gName 4))
  (tIfS (tTest (tOp rGt (tOp (rIxT K) (tVar 4) (tC (.int 1))) (tOp rPow (tC (.int 10)) (tC (.int 6)))))
  (tAsg (tVar 5) (gName 4))
  tNext)))
  tNext)
  (tDrop (tBM K "list" rInsert (tVar 2) (tCons (tCall (sp_Ltake K) [] E0 (tCons (tVar 0) (tCons (tOp rAdd (tCB (rLen K) (tCons (tVar 2) tNil)) (tC (.int 1))) tNil))) (tCons (tVar 4) tNil)))))))
  (tRet (tVar 2)))))
theorem pure_Lstays {K : PySem.W.Frag} {x : V} {H : Hp} {Q : VK} {E : XK} (h : sp_Lstays K [x] H Q E) : t_Lstays K { nx := fun _ H' => Q .non H', rt := Q } [some x, none, none, none, none, none] H := by
  obtain ⟨x, e, t, b, s, rfl, T, q⟩ := h
  cases e
  unfold t_Lstays
  walk_at "ss"
  refine g_Lday T fun day H1 T1 k1 d0 d1 => ?_
  walk_at "ss"
  rename_i fl hfl v1 H2 v10 v11 T2 k2 v2 H3 v20 v21 T3 k3 p4 hp4 v5 H5 v50 v51 T5 k5 mm hmm
  have nf : fl ∉ [t, b] := ni_tape hfl T1
  have ff : Fr H fl := fr_kp hfl k1 nf
  have h5 : H5 fl = some (.lst []) := by walk_at "at"
  have k05 : Kp [t, b] H H5 := by walk_at "kp"
  have m0 : 0 ≤ mm ∧ mm ≤ 40 := by omega
  have tpo : ∀ {G : Hp} {o : HO}, Tape G t b s → Tape (upd G fl o) t b s := fun T' => tape_own hfl T1 T'
  clear hp4 k5 T3 k3 T2 k2 hmm k1
  refine for_range (lo := 0) (n := mm.toNat) (fun i σ H' => ∃ v3 v4 v5 ys ps, σ = [some (.ref t), some (.int day), some (.ref fl), v3, v4, v5] ∧ Tape H' t b s ∧ Kp [t, b] H H' ∧ H' fl = some (.lst ys) ∧ PrsAt H' ys ps ∧ ps.length ≤ i ∧ ∀ q ∈ ps, StayP q)
    ⟨_, _, _, [], [], rfl, T5, k05, h5, .nil, Nat.le_refl _, by simp⟩ ?_ ?_
  · clear k05 h5 T5
    rintro i σ H6 hi ⟨v3, v4, v5, ys, ps, rfl, T6, k6, h6, P6, l6, g6⟩
    have yl := Paired.length P6
    walk_at "ss"
    rename_i a1 H7 a10 a11 T7 k7
    rw [mni]
    refine g_Lstay2 T7 (by omega) fun p8 c g H8 T8 k8 f8 h8 s8 => ?_
    have h68 : H8 fl = some (.lst ys) := k8 _ _ (k7 _ _ h6 nf) nf
    have P8 := prs_kp k8 T7 (prs_kp k7 T6 P6)
    have k08 : Kp [t, b] H H8 := k6.trans (k7.trans k8)
    clear f8 k8 k7 T7 P6 h6 k6 T6
    walk_at "ss"
    dsimp only [List.set]
    with_reducible refine jn (P := fun σ H' => ∃ v3 w v5 sp, σ = [some (.ref t), some (.int day), some (.ref fl), v3, some w, v5] ∧ Tape H' t b s ∧ Kp [t, b] H H' ∧ H' fl = some (.lst ys) ∧ PrsAt H' ys ps ∧ PrAt H' w sp ∧ StayP sp) ?_ fun N hN => ?_
    · clear k08 P8 h68 s8 h8 T8
      rintro σ H9 ⟨v3, w, v5, sp, rfl, T9, k9, h9, P9, R9, g9⟩
      walk_at "ss"
      rename_i vv H10 vv0 vv1 T10 k10
      have h10 := k10 _ _ h9 nf
      refine g_insV h10 (by rw [sizeLine_eq]; omega) vv0 (by omega) ?_
      have P10 := prs_kp k10 T9 P9
      have R10 := pr_kp k10 T9 R9
      refine ⟨_, _, _, _, ps.take vv.toNat ++ [sp] ++ ps.drop vv.toNat, rfl, tpo T10, kp_own ff (k9.trans k10), upd_same, prs_put h10 (prs_app (prs_app (Paired.take _ P10) (.cons R10 .nil)) (Paired.drop _ P10)), ?_, fun q' hq' => ?_⟩
      · simp only [List.length_append, List.length_take, List.length_drop, List.length_singleton]
        omega
      · rcases List.mem_append.mp hq' with hq' | hq'
        · rcases List.mem_append.mp hq' with hq' | hq'
          · exact g6 _ (List.mem_of_mem_take hq')
          · rw [List.mem_singleton.mp hq']; exact g9
        · exact g6 _ (List.mem_of_mem_drop hq')
    · walk_at "ss"
      rename_i p9 hp9
      have T9 : Tape (upd H8 p9 (.lst [])) t b s := by walk_at "tp"
      have k9 : Kp [t, b] H (upd H8 p9 (.lst [])) := by walk_at "kp"
      have h9 := at_new (u := .lst []) hp9 h68
      have h98 := at_new (u := .lst []) hp9 h8
      have P9 := prs_new (o := .lst []) hp9 P8
      generalize upd H8 p9 (.lst []) = H9 at T9 k9 h9 h98 P9 ⊢
      clear hp9 P8 k08 h68 h8 T8
      refine ite_nd (fun e => ?_) fun ne => ?_
      · refine ite_f rfl ?_
        walk_at "ss"
        exact hN _ _ ⟨_, _, _, (c, g), rfl, T9, k9, h9, P9, ⟨_, rfl, h98⟩, s8⟩
      have lp : 0 < ys.length := by rw [yl]; exact List.length_pos_iff.mpr ne
      walk_at "ss"
      rename_i a2 H10 a20 a21 T10 k10
      have h10 := k10 _ _ h9 nf
      have h18 : H10 p8 = some (.tup [.int c, .int g]) := by
        obtain ⟨w, e, h⟩ := pr_kp (v := .ref p8) (q := (c, g)) k10 T9 ⟨p8, rfl, h98⟩
        cases e
        exact h
      have P10 := prs_kp k10 T9 P9
      have k110 := k9.trans k10
      rw [int_eq]
      clear P9 h98 h9 k9 k10 T9
      refine ite_d (fun e => ?_) fun ne => ?_
      · walk_at "ss"
        rename_i v3 H11 v30 v31 T11 k11 vv hvv
        have P11 := prs_kp k11 T10 P10
        have h11 := k11 _ _ h10 nf
        have k111 := k110.trans k11
        clear k11 P10 h10 k110 h18 T10
        obtain ⟨r, hr, tv, rfl, htv⟩ := prs_get P11 hvv
        have sr := g6 r hr
        walk_at "ss"
        rename_i v4 H12 v40 v41 T12 k12 p1 hp1 p2 hp2 v5 H13 v50 v51 T13 k13 w hw
        have R12 : PrAt H12 (.ref tv) r := pr_kp k12 T11 ⟨tv, rfl, htv⟩
        have R : PrsAt (upd (upd H12 p1 (.tup [.int r.2, .int (r.2 + 1 + v4)])) p2 (.lst [.ref tv, .ref p1])) [.ref tv, .ref p1] [r, (r.2, r.2 + 1 + v4)] := by
          refine .cons ?_ (.cons ⟨p1, rfl, at_new hp2 upd_same⟩ .nil)
          exact pr_new hp2 (pr_new hp1 R12)
        have T12' : Tape (upd (upd H12 p1 (.tup [.int r.2, .int (r.2 + 1 + v4)])) p2 (.lst [.ref tv, .ref p1])) t b s := by walk_at "tp"
        have R13 := prs_kp k13 T12' R
        have P13 : PrsAt H13 ys ps := prs_kp k13 T12' (prs_new hp2 (prs_new hp1 (prs_kp k12 T11 P11)))
        have h13 : H13 fl = some (.lst ys) := k13 _ _ (at_new hp2 (at_new hp1 (k12 _ _ h11 nf))) nf
        have k113 : Kp [t, b] H H13 := by walk_at "kp"
        have Rt : PrAt H13 (.ref tv) r := by
          cases R13 with
          | cons a _ => exact a
        obtain ⟨s2, hs2, tw, rfl, htw⟩ := prs_get R13 hw
        clear R T12' R12 k12 hp1 hp2 k13 T12 R13
        walk_at "ss"
        refine ite_d (fun gt => ?_) fun le => ?_
        · walk_at "ss"
          exact hN _ _ ⟨_, _, _, r, rfl, T13, k113, h13, P13, Rt, sr⟩
        · walk_at "ss"
          refine hN _ _ ⟨_, _, _, s2, rfl, T13, k113, h13, P13, ⟨_, rfl, htw⟩, ?_⟩
          rcases List.mem_cons.mp hs2 with rfl | hs2
          · exact sr
          · have e2 := List.mem_singleton.mp hs2
            obtain ⟨b0, b1, b2, b3⟩ := sr
            rw [e2] at le ⊢
            dsimp only at le
            exact ⟨by dsimp only; omega, by dsimp only; omega, by dsimp only; omega, by dsimp only; omega⟩
      · walk_at "ss"
        exact hN _ _ ⟨_, _, _, (c, g), rfl, T10, k110, h10, P10, ⟨_, rfl, h18⟩, s8⟩
  · rintro σ H6 ⟨v3, v4, v5, ys, ps, rfl, T6, k6, h6, P6, l6, g6⟩
    walk_at "ss"
    exact q fl ys ps H6 T6 k6 ff h6 P6 (by omega) g6
def sp_law (K : PySem.W.Frag) : Sp := Sp1 fun x H Q E => ∃ (a : Addr) (ns : List Int), x = .ref a ∧ SqL K H a (ns.map V.int) ∧ ns.length ≤ 63 ∧ ∀ H', Q (.bl true) H'
def t_law (K : PySem.W.Frag) : TS :=
  (tSeq (tFor (iList K (tOp rCat (tLst (tCons (tC (.int 0)) tNil)) (tSl (rSlL K) (tVar 0) tNoPart (tPart (tC (.int 8)))))) (gName 1)
  (tSeq (tAsg (tCall (sp_Lstays K) [] E0 (tCons (tCall (sp_Lbegin K) [] E0 (tCons (tVar 1) tNil)) tNil)) (gName 2))
  (tSeq (tAsg (tCB (rListOf K) (tCons (tVar 2) tNil)) (gName 3))
  (tSeq (tAsg (tCall (sp_dealt K) [] E0 (tCons (tVar 3) tNil)) (gName 4))
  (tSeq (tIfS (tOr (tNot (tB (tCall (sp_Lright K) [] E0 (tCons (tVar 2) (tCons (tVar 4) tNil))))) (tTest (tOp (rNeD K) (tVar 3) (tVar 2))))
  (tRet (tC (.bl false)))
  tNext)
  (tSeq (tAsg (tCB (rListOf K) (tCons (tVar 4) tNil)) (gName 5))
  (tSeq (tDrop (tBM K "list" rAppend (tVar 4) (tCons (tC (.int 0)) tNil)))
  (tIfS (tTest (tOp (rNeD K) (tCall (sp_dealt K) [] E0 (tCons (tVar 3) tNil)) (tVar 5)))
  (tRet (tC (.bl false)))
  tNext))))))))
  (tRet (tOp (rEqD K) (tCall (sp_dealt K) [] E0 (tCons (tLst tNil) tNil)) (tLst tNil))))
theorem pure_law {K : PySem.W.Frag} {x : V} {H : Hp} {Q : VK} {E : XK} (h : sp_law K [x] H Q E) : t_law K { nx := fun _ H' => Q .non H', rt := Q } [some x, none, none, none, none, none] H := by
  obtain ⟨x, e, a, ns, rfl, hS, hl, q⟩ := h
  cases e
  unfold t_law
  walk_at "ss"
  rename_i q1 hq1 q2 hq2 l hl2
  have e6 : (V.int 0 :: (ns.map V.int).take (Int.toNat 8)) = (0 :: ns.take 8).map V.int := by
    rw [List.map_cons, List.map_take]
    rfl
  have hlG : (upd (upd (upd H q1 (.lst [.int 0])) q2 (.lst ((ns.map V.int).take (Int.toNat 8)))) l (.lst ([.int 0] ++ (ns.map V.int).take (Int.toNat 8)))) l = some (.lst ((0 :: ns.take 8).map V.int)) := by
    rw [upd_same, List.singleton_append, e6]
  generalize (upd (upd (upd H q1 (.lst [.int 0])) q2 (.lst ((ns.map V.int).take (Int.toNat 8)))) l (.lst ([.int 0] ++ (ns.map V.int).take (Int.toNat 8)))) = G at hlG ⊢
  clear hq1 hq2 hl2 e6
  refine for_list (K := K) (a := l) (xs := (0 :: ns.take 8).map V.int) (fun i σ H' => ∃ v1 v2 v3 v4 v5, σ = [some (.ref a), v1, v2, v3, v4, v5] ∧ Same G H') ⟨_, _, _, _, _, rfl, Same.refl _⟩ (fun i σ H' _ h => by obtain ⟨_, _, _, _, _, _, h⟩ := h; exact SqL.of (h _ _ hlG)) ?_ ?_
  · rintro i x σ H' hi ⟨v1, v2, v3, v4, v5, rfl, sm⟩
    rw [List.getElem?_map] at hi
    obtain ⟨c, hc, rfl⟩ := Option.map_eq_some_iff.mp hi
    walk_at "ss"
    rename_i t H1 s1 ft T1
    refine g_Lstays T1 fun p ys ps H2 T2 k2 fp h2 P2 l2 g2 => ?_
    have s2 : Same H' H2 := fun r o e => k2 _ _ (s1 _ _ e) fun m => by
      have : r = t := by simpa using m
      rw [this, show H' t = none from ft] at e
      cases e
    have sm2 := sm.trans s2
    have ok : ∀ q ∈ ps, q.1 < q.2 := fun q hq => (g2 q hq).2.1
    clear k2 T2 T1 s1 ft s2 sm fp
    walk_at "ss"
    rename_i p3 hp3
    have h32 : (upd H2 p3 (.lst ys)) p = some (.lst ys) := at_new hp3 h2
    have h33 : (upd H2 p3 (.lst ys)) p3 = some (.lst ys) := upd_same
    have P3 := prs_new (o := .lst ys) hp3 P2
    have sm3 : Same G (upd H2 p3 (.lst ys)) := sm_new hp3 sm2
    generalize upd H2 p3 (.lst ys) = H3 at h32 h33 P3 sm3 ⊢
    clear hp3 P2 h2 sm2
    refine g_dealt (SqL.of h33) P3 (by omega) fun p4 H4 F s4 f4 h4 dF => ?_
    have R := dF.rooms ok
    walk_at "ss"
    refine g_Lright (SqL.of (s4 _ _ h32)) (prs_same s4 P3) h4 dF.1 l2 g2 R fun H5 s5 => ?_
    have h54 := s5 _ _ h4
    have h52 := s5 _ _ (s4 _ _ h32)
    have h53 := s5 _ _ (s4 _ _ h33)
    have P5 := prs_same s5 (prs_same s4 P3)
    have n34 : p4 ≠ p3 := fun e => by
      rw [e] at f4
      rw [show H3 p3 = none from f4] at h33
      cases h33
    have sm5 := sm3.trans (s4.trans s5)
    have f45 : Fr G p4 := fr_of f4 sm3
    clear s5 h4 s4 P3 h33 h32 sm3 f4 R
    walk_at "ss"
    refine ite_ndt rfl ?_
    have e54 : rmV F = (F.map fun r : Nat => (r : Int)).map V.int := by
      unfold rmV
      rw [List.map_map]
      rfl
    have fl : (rmV F).length = ps.length := by unfold rmV; rw [List.length_map, dF.1]
    walk_at "ss"
    rename_i p6 hp6
    have n64 : p6 ≠ p4 := by walk_at "ne"
    have n63 : p6 ≠ p3 := by walk_at "ne"
    have g6 : (upd (upd H5 p6 (.lst (rmV F))) p4 (.lst (rmV F ++ [.int 0]))) p6 = some (.lst (rmV F)) := at_ne n64 upd_same
    have g3 : (upd (upd H5 p6 (.lst (rmV F))) p4 (.lst (rmV F ++ [.int 0]))) p3 = some (.lst ys) := at_ne n34.symm (at_ne n63.symm h53)
    have P6 : PrsAt (upd (upd H5 p6 (.lst (rmV F))) p4 (.lst (rmV F ++ [.int 0]))) ys ps := prs_put (at_new hp6 h54) (prs_new hp6 P5)
    have sm6 : Same G (upd (upd H5 p6 (.lst (rmV F))) p4 (.lst (rmV F ++ [.int 0]))) := sm_own f45 (sm_new hp6 sm5)
    generalize upd (upd H5 p6 (.lst (rmV F))) p4 (.lst (rmV F ++ [.int 0])) = H6 at g6 g3 P6 sm6 ⊢
    refine g_dealt (SqL.of g3) P6 (by omega) fun p7 H7 F7 s7 f7 h7 dF7 => ?_
    obtain rfl := dF.one dF7
    rw [e54] at h7 g6
    walk_at "ss"
    refine g_neD_ints (SqL.of h7) (SqL.of (s7 _ _ g6)) ?_
    walk_at "ss"
    refine ite_ndt rfl ?_
    walk_at "ss"
    exact ⟨_, _, _, _, _, rfl, sm6.trans s7⟩
  · rintro σ H' ⟨v1, v2, v3, v4, v5, rfl, sm⟩
    walk_at "ss"
    rename_i p0 hp0
    refine g_dealt (xs := []) (ps := []) (SqL.of upd_same) .nil (by simp) fun p4 H4 F s4 f4 h4 dF => ?_
    have e : F = [] := List.eq_nil_of_length_eq_zero dF.1
    subst e
    walk_at "ss"
    rename_i p5 hp5
    refine g_eqD_ints (ns := []) (ms := []) (SqL.of (at_new hp5 h4)) (SqL.of upd_same) ?_
    exact q _
open PySem PySem.Spec PyProof.Rows L2 YHd
/-- what the module's names hold -/
structure Txt (K : PySem.W.Frag) (mg : Str → Option Value) : Prop where
  b_bool : mg "bool" = none
  b_enumerate : mg "enumerate" = none
  b_int : mg "int" = none
  b_isinstance : mg "isinstance" = none
  b_len : mg "len" = none
  b_list : mg "list" = none
  b_max : mg "max" = none
  b_min : mg "min" = none
  b_range : mg "range" = none
  b_set : mg "set" = none
  b_sorted : mg "sorted" = none
  b_zip : mg "zip" = none
section
variable {P : Program} {w : World} {K : PySem.W.Frag} {mg : Str → Option Value} {base : Heap}
theorem sc_Ltake : FnScope ["_law_row", "_law_base", "_law_found", "_law_number"] ["_law_row", "_law_base"] (defScope s_Ltake) := ⟨rfl, rfl, rfl, by decide +kernel, rfl, by decide +kernel, by decide +kernel⟩
theorem sc_Lday : FnScope ["_law_row"] ["_law_row"] (defScope s_Lday) := ⟨rfl, rfl, rfl, by decide +kernel, rfl, by decide +kernel, by decide +kernel⟩
theorem sc_Lstay : FnScope ["_law_row", "_law_day_here", "_law_come", "_law_nights"] ["_law_row", "_law_day_here"] (defScope s_Lstay) := ⟨rfl, rfl, rfl, by decide +kernel, rfl, by decide +kernel, by decide +kernel⟩
theorem sc_Lstays : FnScope ["_law_row", "_law_day_here", "_law_found", "_law_k", "_law_stay_here", "_law_other"] ["_law_row"] (defScope s_Lstays) := ⟨rfl, rfl, rfl, by decide +kernel, rfl, by decide +kernel, by decide +kernel⟩
theorem sc_Lbegin : FnScope ["_law_cell"] ["_law_cell"] (defScope s_Lbegin) := ⟨rfl, rfl, rfl, by decide +kernel, rfl, by decide +kernel, by decide +kernel⟩
theorem sc_dealt : FnScope ["stays", "until", "stay", "found", "at", "room"] ["stays"] (defScope s_dealt) := ⟨rfl, rfl, rfl, by decide +kernel, rfl, by decide +kernel, by decide +kernel⟩
theorem sc_Lright : FnScope ["_law_stays_here", "_law_found", "_law_room", "_law_nights", "_law_come", "_law_go", "_law_days", "_law_most", "_law_night"] ["_law_stays_here", "_law_found"] (defScope s_Lright) := ⟨rfl, rfl, rfl, by decide +kernel, rfl, by decide +kernel, by decide +kernel⟩
theorem sc_law : FnScope ["_law_script", "_law_cell", "_law_stays_here", "_law_handed", "_law_found", "_law_kept"] ["_law_script"] (defScope s_law) := ⟨rfl, rfl, rfl, by decide +kernel, rfl, by decide +kernel, by decide +kernel⟩
theorem ok_Ltake (T : Txt K mg) {f : Addr} {fd : FuncData} (F : FunD K "_law_take" "_law_take" (defArgs s_Ltake) (defBody s_Ltake) (defScope s_Ltake) [] [] f fd)  : FnG P w K mg base CX0 1 f fd ["_law_row", "_law_base"] (sp_Ltake K) := by
  refine g_def F sc_Ltake (fun vs H Q E h => ?_) (fun cdv A outer s H vs Q E hr h => ⟨t_Ltake K, PSs.nox ?_, ?_⟩)
  · obtain ⟨_, _, rfl, _⟩ := h
    rfl
  · exact (pss_cons (ps_if (pt_cmpR op_gt (pe_ix ix_list (pv 0) pe_int (fun _ _ => rfl)) pe_int (nomark _)) (pss_cons (ps_set (i := 2) sc_Ltake.nd rfl (Or.inl rfl) (pe_op op_mod (pe_ix ix_list (pv 0) pe_int (fun _ _ => rfl)) (pv 1)))
  (pss_cons (ps_asg (pe_op op_fdivW (pe_ix ix_list (pv 0) pe_int (fun _ _ => rfl)) (pv 1)) (pg_sub (pv 0) pe_int set_list))
  (pss_one (ps_ret (pv 2))))) pss_nil)
  (pss_cons (ps_asg (pe_op op_mod (pe_op op_add (pe_op op_mul (pe_ix ix_list (pv 0) pe_int (fun _ _ => rfl)) pe_int) pe_int) pe_int) (pg_sub (pv 0) pe_int set_list))
  (pss_cons (ps_set (i := 3) sc_Ltake.nd rfl (Or.inl rfl) (pe_op op_mod (pe_op op_add (pe_op op_add (pe_op op_mul (pe_ix ix_list (pv 0) pe_int (fun _ _ => rfl)) (pe_ix ix_list (pv 0) pe_int (fun _ _ => rfl))) (pe_op op_mul pe_int (pe_ix ix_list (pv 0) pe_int (fun _ _ => rfl)))) pe_int) pe_int))
  (pss_one (ps_ret (pe_op op_mod (pe_op op_fdivW (pv 3) pe_int) (pv 1)))))))
  · obtain ⟨_, _, rfl, _⟩ := id h
    exact pure_Ltake h
theorem ok_Lday (T : Txt K mg) {f : Addr} {fd : FuncData} (F : FunD K "_law_day" "_law_day" (defArgs s_Lday) (defBody s_Lday) (defScope s_Lday) [] [] f fd) (c_Ltake : Y.Cal P w K mg base CX0 1 "_law_take" (sp_Ltake K) []) : FnG P w K mg base CX0 2 f fd ["_law_row"] (sp_Lday K) := by
  refine g_def F sc_Lday (fun vs H Q E h => ?_) (fun cdv A outer s H vs Q E hr h => ⟨t_Lday K, PSs.nox ?_, ?_⟩)
  · obtain ⟨_, rfl, _⟩ := h
    rfl
  · exact (pss_one (ps_ret (pe_ix ix_list (pe_lst (pa_cons pe_int (pa_cons (Y.pe_c c_Ltake hr (by decide) rfl pass0 (pa_cons (pv 0) (pa_cons pe_int pa_nil))) (pa_cons pe_int (pa_cons (pe_op op_add pe_int (Y.pe_c c_Ltake hr (by decide) rfl pass0 (pa_cons (pv 0) (pa_cons pe_int pa_nil)))) (pa_cons (Y.pe_c c_Ltake hr (by decide) rfl pass0 (pa_cons (pv 0) (pa_cons pe_int pa_nil))) pa_nil)))))) (Y.pe_c c_Ltake hr (by decide) rfl pass0 (pa_cons (pv 0) (pa_cons pe_int pa_nil))) (fun _ _ => rfl))))
  · obtain ⟨_, rfl, _⟩ := id h
    exact pure_Lday h
theorem ok_Lstay (T : Txt K mg) {f : Addr} {fd : FuncData} (F : FunD K "_law_stay" "_law_stay" (defArgs s_Lstay) (defBody s_Lstay) (defScope s_Lstay) [] [] f fd) (c_Ltake : Y.Cal P w K mg base CX0 1 "_law_take" (sp_Ltake K) []) : FnG P w K mg base CX0 2 f fd ["_law_row", "_law_day_here"] (sp_Lstay K) := by
  refine g_def F sc_Lstay (fun vs H Q E h => ?_) (fun cdv A outer s H vs Q E hr h => ⟨t_Lstay K, PSs.nox ?_, ?_⟩)
  · obtain ⟨_, _, rfl, _⟩ := h
    rfl
  · exact (pss_cons (ps_set (i := 2) sc_Lstay.nd rfl (Or.inl rfl) (pe_callB (call_min2 rfl) (by rfl) T.b_min (by decide +kernel) (pa_cons (pe_op op_sub (pe_op op_pow pe_int pe_int) pe_int) (pa_cons (pe_op op_add (pv 1) (Y.pe_c c_Ltake hr (by decide) rfl pass0 (pa_cons (pv 0) (pa_cons pe_int pa_nil)))) pa_nil))))
  (pss_cons (ps_set (i := 3) sc_Lstay.nd rfl (Or.inl rfl) (pe_op op_add pe_int (pe_ix ix_list (pe_lst (pa_cons (Y.pe_c c_Ltake hr (by decide) rfl pass0 (pa_cons (pv 0) (pa_cons pe_int pa_nil))) (pa_cons (Y.pe_c c_Ltake hr (by decide) rfl pass0 (pa_cons (pv 0) (pa_cons pe_int pa_nil))) (pa_cons pe_int pa_nil)))) (pe_op op_fdivW (Y.pe_c c_Ltake hr (by decide) rfl pass0 (pa_cons (pv 0) (pa_cons pe_int pa_nil))) pe_int) (fun _ _ => rfl))))
  (pss_one (ps_ret (pe_tup (pa_cons (pv 2) (pa_cons (pe_callB (call_min2 rfl) (by rfl) T.b_min (by decide +kernel) (pa_cons (pe_op op_pow pe_int pe_int) (pa_cons (pe_op op_add (pv 2) (pv 3)) pa_nil))) pa_nil)))))))
  · obtain ⟨_, _, rfl, _⟩ := id h
    exact pure_Lstay h
theorem ok_Lstays (T : Txt K mg) {f : Addr} {fd : FuncData} (F : FunD K "_law_stays" "_law_stays" (defArgs s_Lstays) (defBody s_Lstays) (defScope s_Lstays) [] [] f fd) (c_Lday : Y.Cal P w K mg base CX0 2 "_law_day" (sp_Lday K) []) (c_Ltake : Y.Cal P w K mg base CX0 1 "_law_take" (sp_Ltake K) []) (c_Lstay : Y.Cal P w K mg base CX0 2 "_law_stay" (sp_Lstay K) []) : FnG P w K mg base CX0 3 f fd ["_law_row"] (sp_Lstays K) := by
  refine g_def F sc_Lstays (fun vs H Q E h => ?_) (fun cdv A outer s H vs Q E hr h => ⟨t_Lstays K, PSs.nox ?_, ?_⟩)
  · obtain ⟨_, rfl, _⟩ := h
    rfl
  · exact (pss_cons (ps_set (i := 1) sc_Lstays.nd rfl (Or.inl rfl) (Y.pe_c c_Lday hr (by decide) rfl pass0 (pa_cons (pv 0) pa_nil)))
  (pss_cons (ps_set (i := 2) sc_Lstays.nd rfl (Or.inl rfl) (pe_lst pa_nil))
  (pss_cons (ps_for PassesOwn.never rfl (pi_range1 rfl T.b_range (pa_cons (pe_ix ix_list (pe_lst (pa_cons (Y.pe_c c_Ltake hr (by decide) rfl pass0 (pa_cons (pv 0) (pa_cons pe_int pa_nil))) (pa_cons (Y.pe_c c_Ltake hr (by decide) rfl pass0 (pa_cons (pv 0) (pa_cons pe_int pa_nil))) pa_nil))) (Y.pe_c c_Ltake hr (by decide) rfl pass0 (pa_cons (pv 0) (pa_cons pe_int pa_nil))) (fun _ _ => rfl)) pa_nil)) (pg_name (i := 3) sc_Lstays.nd rfl (Or.inl rfl)) (pss_cons (ps_set (i := 4) sc_Lstays.nd rfl (Or.inl rfl) (Y.pe_c c_Lstay hr (by decide) rfl pass0 (pa_cons (pv 0) (pa_cons (pe_callB (call_min2 rfl) (by rfl) T.b_min (by decide +kernel) (pa_cons pe_int (pa_cons (pe_op op_add (pv 1) (Y.pe_c c_Ltake hr (by decide) rfl pass0 (pa_cons (pv 0) (pa_cons pe_int pa_nil)))) pa_nil))) pa_nil))))
  (pss_cons (ps_if (PW.pt (pw_and (pt_cmpR (op_neD hr.units) (pv 2) (pe_lst pa_nil) (nomark _)) (pw_and1 (pt_cmpR op_eq (Y.pe_c c_Ltake hr (by decide) rfl pass0 (pa_cons (pv 0) (pa_cons pe_int pa_nil))) pe_int (nomark _))))) (pss_cons (ps_set (i := 5) sc_Lstays.nd rfl (Or.inl rfl) (pe_ix ix_list (pv 2) (Y.pe_c c_Ltake hr (by decide) rfl pass0 (pa_cons (pv 0) (pa_cons (pe_callB call_len_seq (by rfl) T.b_len (by decide +kernel) (pa_cons (pv 2) pa_nil)) pa_nil))) (fun _ _ => rfl)))
  (pss_cons (ps_set (i := 4) sc_Lstays.nd rfl (Or.inl rfl) (pe_ix ix_list (pe_lst (pa_cons (pv 5) (pa_cons (pe_tup (pa_cons (pe_ix ix_tup (pv 5) pe_int (fun _ _ => rfl)) (pa_cons (pe_op op_add (pe_op op_add (pe_ix ix_tup (pv 5) pe_int (fun _ _ => rfl)) pe_int) (Y.pe_c c_Ltake hr (by decide) rfl pass0 (pa_cons (pv 0) (pa_cons pe_int pa_nil)))) pa_nil))) pa_nil))) (Y.pe_c c_Ltake hr (by decide) rfl pass0 (pa_cons (pv 0) (pa_cons pe_int pa_nil))) (fun _ _ => rfl)))
  (pss_one (ps_if (pt_cmpR op_gt (pe_ix ix_tup (pv 4) pe_int (fun _ _ => rfl)) (pe_op op_pow pe_int pe_int) (nomark _)) (pss_one (ps_set (i := 4) sc_Lstays.nd rfl (Or.inl rfl) (pv 5))) pss_nil)))) pss_nil)
  (pss_one (ps_expr (pe_bm PySem.F.plainAttrs_list PySem.F.slot_list_insert PySem.F.type_list_insert mt_insert (pv 2) (pa_cons (Y.pe_c c_Ltake hr (by decide) rfl pass0 (pa_cons (pv 0) (pa_cons (pe_op op_add (pe_callB call_len_seq (by rfl) T.b_len (by decide +kernel) (pa_cons (pv 2) pa_nil)) pe_int) pa_nil))) (pa_cons (pv 4) pa_nil))))))))
  (pss_one (ps_ret (pv 2))))))
  · obtain ⟨_, rfl, _⟩ := id h
    exact pure_Lstays h
theorem ok_Lbegin (T : Txt K mg) {f : Addr} {fd : FuncData} (F : FunD K "_law_begin" "_law_begin" (defArgs s_Lbegin) (defBody s_Lbegin) (defScope s_Lbegin) [] [] f fd)  : FnG P w K mg base CX0 1 f fd ["_law_cell"] (sp_Lbegin K) := by
  refine g_def F sc_Lbegin (fun vs H Q E h => ?_) (fun cdv A outer s H vs Q E hr h => ⟨t_Lbegin K, PSs.nox ?_, ?_⟩)
  · obtain ⟨_, rfl, _⟩ := h
    rfl
  · exact (pss_cons (ps_if (pt_cmpR op_ge (pv 0) (pe_op op_pow pe_int pe_int) (nomark _)) (pss_one (ps_ret (pe_lst (pa_cons (pe_op op_sub (pv 0) (pe_op op_pow pe_int pe_int)) (pa_cons pe_int pa_nil))))) pss_nil)
  (pss_one (ps_ret (pe_lst (pa_cons pe_int (pa_cons (pe_op op_add (pe_op op_mod (pv 0) pe_int) pe_int) pa_nil))))))
  · obtain ⟨_, rfl, _⟩ := id h
    exact pure_Lbegin h
theorem ok_dealt (T : Txt K mg) {f : Addr} {fd : FuncData} (F : FunD K "dealt" "dealt" (defArgs s_dealt) (defBody s_dealt) (defScope s_dealt) [] [] f fd)  : FnG P w K mg base CX0 1 f fd ["stays"] (sp_dealt K) := by
  refine g_def F sc_dealt (fun vs H Q E h => ?_) (fun cdv A outer s H vs Q E hr h => ⟨t_dealt K, PSs.nox ?_, ?_⟩)
  · obtain ⟨_, rfl, _⟩ := h
    rfl
  · exact (pss_cons (ps_set (i := 1) sc_dealt.nd rfl (Or.inl rfl) (pe_lst pa_nil))
  (pss_cons (ps_setLc (i := 3) (own := [("stay", 2)]) (g := (gName 2)) (tt := tYes) rfl sc_dealt.nd rfl rfl (sw_true rfl rfl rfl (by decide +kernel)) (pi_list (pv 0)) (blkOk_by (own := [("stay", 2)]) (N := ["stays", "until", "stay", "found", "at", "room"]) (sc := defScope s_dealt) (by decide +kernel)) (fun _ _ _ _ _ => (pg_name (i := 2) sc_dealt.nd rfl (Or.inl rfl))) (fun _ _ _ _ _ => pts_nil) (fun _ _ _ _ _ => pe_int))
  (pss_cons (ps_for PassesOwn.never rfl (pi_list (pe_callB (Y.cr_sortJ hr) (by rfl) T.b_sorted (by decide +kernel) (pa_cons (pe_lc (own := [("at", 4), ("stay", 2)]) (g := (gTup K 2 (gCons (gName 4) (gCons (gName 2) gNil)))) (tt := tYes) rfl sc_dealt.nd (pi_enum (by rfl) T.b_enumerate (pa_cons (pv 0) pa_nil)) (blkOk_by (own := [("at", 4), ("stay", 2)]) (N := ["stays", "until", "stay", "found", "at", "room"]) (sc := defScope s_dealt) (by decide +kernel)) (fun _ _ _ _ _ => (pg_tup (by rfl) (pgs_cons (pg_name (i := 4) sc_dealt.nd rfl (Or.inl rfl)) (pgs_cons (pg_name (i := 2) sc_dealt.nd rfl (Or.inl rfl)) pgs_nil)))) (fun _ _ _ _ _ => pts_nil) (fun _ _ _ _ _ => (pe_tup (pa_cons (pv 2) (pa_cons (pv 4) pa_nil))))) pa_nil))) (pg_tup (by rfl) (pgs_cons (pg_name (i := 2) sc_dealt.nd rfl (Or.inl rfl)) (pgs_cons (pg_name (i := 4) sc_dealt.nd rfl (Or.inl rfl)) pgs_nil))) (pss_cons (ps_set (i := 5) sc_dealt.nd rfl (Or.inl rfl) pe_int)
  (pss_cons (ps_while PassesOwn.never (PW.pt (pw_and (pt_cmpR op_lt (pv 5) (pe_callB call_len_seq (by rfl) T.b_len (by decide +kernel) (pa_cons (pv 1) pa_nil)) (nomark _)) (pw_and1 (pt_cmpR op_gt (pe_ix ix_list (pv 1) (pv 5) (fun _ _ => rfl)) (pe_ix ix_tup (pv 2) pe_int (fun _ _ => rfl)) (nomark _))))) (pss_one (ps_set (i := 5) sc_dealt.nd rfl (Or.inl rfl) (pe_op op_add (pv 5) pe_int))))
  (pss_cons (ps_if (pt_cmpR op_eq (pv 5) (pe_callB call_len_seq (by rfl) T.b_len (by decide +kernel) (pa_cons (pv 1) pa_nil)) (nomark _)) (pss_one (ps_expr (pe_bm PySem.F.plainAttrs_list PySem.F.slot_list_append PySem.F.type_list_append mt_append (pv 1) (pa_cons pe_int pa_nil)))) pss_nil)
  (pss_cons (ps_asg (pe_ix ix_tup (pv 2) pe_int (fun _ _ => rfl)) (pg_sub (pv 1) (pv 5) set_list))
  (pss_one (ps_asg (pv 5) (pg_sub (pv 3) (pv 4) set_list))))))))
  (pss_one (ps_ret (pv 3))))))
  · obtain ⟨_, rfl, _⟩ := id h
    exact pure_dealt h
theorem ok_Lright (T : Txt K mg) {f : Addr} {fd : FuncData} (F : FunD K "_law_right" "_law_right" (defArgs s_Lright) (defBody s_Lright) (defScope s_Lright) [] [] f fd)  : FnG P w K mg base CX0 1 f fd ["_law_stays_here", "_law_found"] (sp_Lright K) := by
  refine g_def F sc_Lright (fun vs H Q E h => ?_) (fun cdv A outer s H vs Q E hr h => ⟨t_Lright K, PSs.nox ?_, ?_⟩)
  · obtain ⟨_, _, rfl, _⟩ := h
    rfl
  · exact (pss_cons (ps_if (PW.pt (pw_or (pt_not (pt_val (pe_callB call_isi (by rfl) T.b_isinstance (by decide +kernel) (pa_cons (pv 1) (pa_cons (pe_bltn (v := .ty "list") (by rfl) T.b_list (by decide +kernel) rfl) pa_nil))))) (pw_or1 (pt_cmpR op_ne (pe_callB call_len_seq (by rfl) T.b_len (by decide +kernel) (pa_cons (pv 1) pa_nil)) (pe_callB call_len_seq (by rfl) T.b_len (by decide +kernel) (pa_cons (pv 0) pa_nil)) (nomark _))))) (pss_one (ps_ret pe_bl)) pss_nil)
  (pss_cons (ps_if (pt_cmpR op_gt (pe_callB call_len_seq (by rfl) T.b_len (by decide +kernel) (pa_cons (pe_lc (own := [("_law_room", 2)]) (g := (gName 2)) (tt := (tOr (tB (tCB (rIsi K) (tCons (tVar 2) (tCons (tC (.ty "bool")) tNil)))) (tNot (tB (tCB (rIsi K) (tCons (tVar 2) (tCons (tC (.ty "int")) tNil))))))) rfl sc_Lright.nd (pi_list (pv 1)) (blkOk_by (own := [("_law_room", 2)]) (N := ["_law_stays_here", "_law_found", "_law_room", "_law_nights", "_law_come", "_law_go", "_law_days", "_law_most", "_law_night"]) (sc := defScope s_Lright) (by decide +kernel)) (fun _ _ _ _ _ => (pg_name (i := 2) sc_Lright.nd rfl (Or.inl rfl))) (fun _ _ _ _ _ => (pts_one (PW.pt (pw_or (pt_val (pe_callB call_isi (by rfl) T.b_isinstance (by decide +kernel) (pa_cons (pv 2) (pa_cons (pe_bltn (v := .ty "bool") (by rfl) T.b_bool (by decide +kernel) rfl) pa_nil)))) (pw_or1 (pt_not (pt_val (pe_callB call_isi (by rfl) T.b_isinstance (by decide +kernel) (pa_cons (pv 2) (pa_cons (pe_bltn (v := .ty "int") (by rfl) T.b_int (by decide +kernel) rfl) pa_nil)))))))))) (fun _ _ _ _ _ => (pv 2))) pa_nil)) pe_int (nomark _)) (pss_one (ps_ret pe_bl)) pss_nil)
  (pss_cons (ps_set (i := 3) sc_Lright.nd rfl (Or.inl rfl) (pe_lst pa_nil))
  (pss_cons (ps_for PassesOwn.never rfl (pi_zip (by rfl) T.b_zip (pa_cons (pv 0) (pa_cons (pv 1) pa_nil))) (pg_tup (by rfl) (pgs_cons (pg_tup (by rfl) (pgs_cons (pg_name (i := 4) sc_Lright.nd rfl (Or.inl rfl)) (pgs_cons (pg_name (i := 5) sc_Lright.nd rfl (Or.inl rfl)) pgs_nil))) (pgs_cons (pg_name (i := 2) sc_Lright.nd rfl (Or.inr rfl)) pgs_nil))) (pss_one (ps_expr (pe_bm PySem.F.plainAttrs_list PySem.F.slot_list_extend PySem.F.type_list_extend mt_extend (pv 3) (pa_cons (pe_lc (own := [("_law_night", 8)]) (g := (gName 8)) (tt := tYes) rfl sc_Lright.nd (pi_range2 rfl T.b_range (pa_cons (pv 4) (pa_cons (pv 5) pa_nil))) (blkOk_by (own := [("_law_night", 8)]) (N := ["_law_stays_here", "_law_found", "_law_room", "_law_nights", "_law_come", "_law_go", "_law_days", "_law_most", "_law_night"]) (sc := defScope s_Lright) (by decide +kernel)) (fun _ _ _ _ _ => (pg_name (i := 8) sc_Lright.nd rfl (Or.inl rfl))) (fun _ _ _ _ _ => pts_nil) (fun _ _ _ _ _ => (pe_tup (pa_cons (pv 8) (pa_cons (pv 2) pa_nil))))) pa_nil)))))
  (pss_cons (ps_if (pt_cmpR op_ne (Y.pe_lenSetT hr (by rfl) T.b_len (by rfl) T.b_set (pv 3)) (pe_callB call_len_seq (by rfl) T.b_len (by decide +kernel) (pa_cons (pv 3) pa_nil)) (nomark _)) (pss_one (ps_ret pe_bl)) pss_nil)
  (pss_cons (ps_set (i := 6) sc_Lright.nd rfl (Or.inr rfl) (pe_lc (own := [("_law_night", 8), ("_law_room", 2)]) (g := (gTup K 2 (gCons (gName 8) (gCons (gName 2) gNil)))) (tt := tYes) rfl sc_Lright.nd (pi_list (pv 3)) (blkOk_by (own := [("_law_night", 8), ("_law_room", 2)]) (N := ["_law_stays_here", "_law_found", "_law_room", "_law_nights", "_law_come", "_law_go", "_law_days", "_law_most", "_law_night"]) (sc := defScope s_Lright) (by decide +kernel)) (fun _ _ _ _ _ => (pg_tup (by rfl) (pgs_cons (pg_name (i := 8) sc_Lright.nd rfl (Or.inl rfl)) (pgs_cons (pg_name (i := 2) sc_Lright.nd rfl (Or.inl rfl)) pgs_nil)))) (fun _ _ _ _ _ => pts_nil) (fun _ _ _ _ _ => (pv 8))))
  (pss_cons (ps_set (i := 7) sc_Lright.nd rfl (Or.inl rfl) (pe_callBK (Y.crk_maxD (by rfl) hr) (by rfl) T.b_max (by decide +kernel) (pa_cons (pe_lc (own := [("_law_night", 8)]) (g := (gName 8)) (tt := tYes) rfl sc_Lright.nd (pi_list (Y.pe_sortSet (by rfl) T.b_sorted (by rfl) T.b_set (pv 6))) (blkOk_by (own := [("_law_night", 8)]) (N := ["_law_stays_here", "_law_found", "_law_room", "_law_nights", "_law_come", "_law_go", "_law_days", "_law_most", "_law_night"]) (sc := defScope s_Lright) (by decide +kernel)) (fun _ _ _ _ _ => (pg_name (i := 8) sc_Lright.nd rfl (Or.inl rfl))) (fun _ _ _ _ _ => pts_nil) (fun _ _ _ _ _ => (pe_bm PySem.F.plainAttrs_list PySem.F.slot_list_count PySem.F.type_list_count Y.mt_cntV (pv 6) (pa_cons (pv 8) pa_nil)))) pa_nil) (pk_cons pe_int pk_nil)))
  (pss_one (ps_ret (pe_cmpR (op_eqD hr.units) (Y.pe_sortSet (by rfl) T.b_sorted (by rfl) T.b_set (pv 1)) (pe_listRg rfl rfl T.b_list (prg_1 rfl T.b_range (pv 7))) (nomark _)))))))))))
  · obtain ⟨_, _, rfl, _⟩ := id h
    exact pure_Lright h
theorem ok_law (T : Txt K mg) {f : Addr} {fd : FuncData} (F : FunD K "law" "law" (defArgs s_law) (defBody s_law) (defScope s_law) [] [] f fd) (c_Lstays : Y.Cal P w K mg base CX0 3 "_law_stays" (sp_Lstays K) []) (c_Lbegin : Y.Cal P w K mg base CX0 1 "_law_begin" (sp_Lbegin K) []) (c_dealt : Y.Cal P w K mg base CX0 1 "dealt" (sp_dealt K) []) (c_Lright : Y.Cal P w K mg base CX0 1 "_law_right" (sp_Lright K) []) : FnG P w K mg base CX0 4 f fd ["_law_script"] (sp_law K) := by
  refine g_def F sc_law (fun vs H Q E h => ?_) (fun cdv A outer s H vs Q E hr h => ⟨t_law K, PSs.nox ?_, ?_⟩)
  · obtain ⟨_, rfl, _⟩ := h
    rfl
  · exact (pss_cons (ps_for PassesOwn.never rfl (pi_list (pe_op op_cat (pe_lst (pa_cons pe_int pa_nil)) (pe_slice sl_list (pv 0) po_none (po_some pe_int)))) (pg_name (i := 1) sc_law.nd rfl (Or.inl rfl)) (pss_cons (ps_set (i := 2) sc_law.nd rfl (Or.inl rfl) (Y.pe_c c_Lstays hr (by decide) rfl pass0 (pa_cons (Y.pe_c c_Lbegin hr (by decide) rfl pass0 (pa_cons (pv 1) pa_nil)) pa_nil)))
  (pss_cons (ps_set (i := 3) sc_law.nd rfl (Or.inl rfl) (pe_callTy call_list_of (by rfl) T.b_list (by decide +kernel) (pa_cons (pv 2) pa_nil)))
  (pss_cons (ps_set (i := 4) sc_law.nd rfl (Or.inl rfl) (Y.pe_c c_dealt hr (by decide) rfl pass0 (pa_cons (pv 3) pa_nil)))
  (pss_cons (ps_if (PW.pt (pw_or (pt_not (pt_val (Y.pe_c c_Lright hr (by decide) rfl pass0 (pa_cons (pv 2) (pa_cons (pv 4) pa_nil))))) (pw_or1 (pt_cmpR (op_neD hr.units) (pv 3) (pv 2) (nomark _))))) (pss_one (ps_ret pe_bl)) pss_nil)
  (pss_cons (ps_set (i := 5) sc_law.nd rfl (Or.inl rfl) (pe_callTy call_list_of (by rfl) T.b_list (by decide +kernel) (pa_cons (pv 4) pa_nil)))
  (pss_cons (ps_expr (pe_bm PySem.F.plainAttrs_list PySem.F.slot_list_append PySem.F.type_list_append mt_append (pv 4) (pa_cons pe_int pa_nil)))
  (pss_one (ps_if (pt_cmpR (op_neD hr.units) (Y.pe_c c_dealt hr (by decide) rfl pass0 (pa_cons (pv 3) pa_nil)) (pv 5) (nomark _)) (pss_one (ps_ret pe_bl)) pss_nil)))))))))
  (pss_one (ps_ret (pe_cmpR (op_eqD hr.units) (Y.pe_c c_dealt hr (by decide) rfl pass0 (pa_cons (pe_lst pa_nil) pa_nil)) (pe_lst pa_nil) (nomark _)))))
  · obtain ⟨_, rfl, _⟩ := id h
    exact pure_law h
end
theorem facts {P : Program} {w : World} {K : PySem.W.Frag} {h : Heap} {mg : Str → Option Value} {f : Addr} (X : K.In h) (G : h.Ns mainGlobals mg) (hfa : mg ("law" : Str) = some (.ref f)) (c : He.SaysD fa fn K) :
    ∃ fd : FuncData, (∀ (s : Shared) (v : Value), BindsTo s fd ⟨[v], []⟩ [("_law_script", v)]) ∧ ∀ base : Heap, K.In base → base.Ns mainGlobals mg → FnG P w K mg base CX0 4 f fd ["_law_script"] (sp_law K) := by
  obtain ⟨fd_Ltake, F_Ltake⟩ := c.def_ 0 (d := d_Ltake) rfl
  obtain ⟨fd_Lday, F_Lday⟩ := c.def_ 1 (d := d_Lday) rfl
  obtain ⟨fd_Lstay, F_Lstay⟩ := c.def_ 2 (d := d_Lstay) rfl
  obtain ⟨fd_Lstays, F_Lstays⟩ := c.def_ 3 (d := d_Lstays) rfl
  obtain ⟨fd_Lbegin, F_Lbegin⟩ := c.def_ 4 (d := d_Lbegin) rfl
  obtain ⟨fd_dealt, F_dealt⟩ := c.def_ 5 (d := d_dealt) rfl
  obtain ⟨fd_Lright, F_Lright⟩ := c.def_ 6 (d := d_Lright) rfl
  obtain ⟨fd_law, F_law⟩ := c.def_ 7 (d := d_law) rfl
  have T : Txt K mg := ⟨He.free_ok X G (c.fact 8 (f := .free "bool") rfl), He.free_ok X G (c.fact 9 (f := .free "enumerate") rfl), He.free_ok X G (c.fact 10 (f := .free "int") rfl), He.free_ok X G (c.fact 11 (f := .free "isinstance") rfl), He.free_ok X G (c.fact 12 (f := .free "len") rfl), He.free_ok X G (c.fact 13 (f := .free "list") rfl), He.free_ok X G (c.fact 14 (f := .free "max") rfl), He.free_ok X G (c.fact 15 (f := .free "min") rfl), He.free_ok X G (c.fact 16 (f := .free "range") rfl), He.free_ok X G (c.fact 17 (f := .free "set") rfl), He.free_ok X G (c.fact 18 (f := .free "sorted") rfl), He.free_ok X G (c.fact 19 (f := .free "zip") rfl)⟩
  have e := hfa.symm.trans (He.glo_ok X G (c.fact 7 (f := .glo "law") rfl))
  cases e
  have b := FunD.bindsA (ps := ["_law_script"]) F_law fun _ _ _ _ _ _ us hl => match us, hl with | [_], _ => rfl
  refine ⟨fd_law, fun s v => b s [v] rfl, fun base _ _ => ?_⟩
  have c_Ltake : Y.Cal P w K mg base CX0 1 "_law_take" (sp_Ltake K) [] := ⟨_, fd_Ltake, ["_law_row", "_law_base"], [], ok_Ltake T F_Ltake , He.glo_ok X G (c.fact 0 (f := .glo "_law_take") rfl), F_Ltake.kp, F_Ltake.bindsN fun _ _ _ _ _ _ us hl => match us, hl with | [_, _], _ => rfl, .nil⟩
  have c_Lday : Y.Cal P w K mg base CX0 2 "_law_day" (sp_Lday K) [] := ⟨_, fd_Lday, ["_law_row"], [], ok_Lday T F_Lday c_Ltake, He.glo_ok X G (c.fact 1 (f := .glo "_law_day") rfl), F_Lday.kp, F_Lday.bindsN fun _ _ _ _ _ _ us hl => match us, hl with | [_], _ => rfl, .nil⟩
  have c_Lstay : Y.Cal P w K mg base CX0 2 "_law_stay" (sp_Lstay K) [] := ⟨_, fd_Lstay, ["_law_row", "_law_day_here"], [], ok_Lstay T F_Lstay c_Ltake, He.glo_ok X G (c.fact 2 (f := .glo "_law_stay") rfl), F_Lstay.kp, F_Lstay.bindsN fun _ _ _ _ _ _ us hl => match us, hl with | [_, _], _ => rfl, .nil⟩
  have c_Lstays : Y.Cal P w K mg base CX0 3 "_law_stays" (sp_Lstays K) [] := ⟨_, fd_Lstays, ["_law_row"], [], ok_Lstays T F_Lstays c_Lday c_Ltake c_Lstay, He.glo_ok X G (c.fact 3 (f := .glo "_law_stays") rfl), F_Lstays.kp, F_Lstays.bindsN fun _ _ _ _ _ _ us hl => match us, hl with | [_], _ => rfl, .nil⟩
  have c_Lbegin : Y.Cal P w K mg base CX0 1 "_law_begin" (sp_Lbegin K) [] := ⟨_, fd_Lbegin, ["_law_cell"], [], ok_Lbegin T F_Lbegin , He.glo_ok X G (c.fact 4 (f := .glo "_law_begin") rfl), F_Lbegin.kp, F_Lbegin.bindsN fun _ _ _ _ _ _ us hl => match us, hl with | [_], _ => rfl, .nil⟩
  have c_dealt : Y.Cal P w K mg base CX0 1 "dealt" (sp_dealt K) [] := ⟨_, fd_dealt, ["stays"], [], ok_dealt T F_dealt , He.glo_ok X G (c.fact 5 (f := .glo "dealt") rfl), F_dealt.kp, F_dealt.bindsN fun _ _ _ _ _ _ us hl => match us, hl with | [_], _ => rfl, .nil⟩
  have c_Lright : Y.Cal P w K mg base CX0 1 "_law_right" (sp_Lright K) [] := ⟨_, fd_Lright, ["_law_stays_here", "_law_found"], [], ok_Lright T F_Lright , He.glo_ok X G (c.fact 6 (f := .glo "_law_right") rfl), F_Lright.kp, F_Lright.bindsN fun _ _ _ _ _ _ us hl => match us, hl with | [_, _], _ => rfl, .nil⟩
  exact ok_law T F_law c_Lstays c_Lbegin c_dealt c_Lright
end Y
theorem PySem.Challenge.cw_stayprice_k76_rooms_dealt_holds : PySem.Challenge.rw_stayprice_k76_rooms_dealt.Holds :=
  Y.early Y.sp_law (fun K H a ns hl _ hS => by
    exact ⟨_, rfl, a, ns, rfl, hS, hl, fun _ => rfl⟩) Y.facts
