import PyProof.Rows.All
import Wide.All
import OpenK.AllK
import Wide.FinOn
import KE.KStateDown
import HandS.ForMost
import HandS.ForExc
import HandS.Wide
import HandS.Conv
import HandS.IsInst
import HandS.Defaults
import HandS.Codes
import HandS.Flow
import PyProof.EqLayable
import HandS.Head0
import HandS.Head1
import HandS.Head2
import HandS.HeadEnd
import HandS.HeadHook1
import HandS.HeadHook2
import HandS.HeadHook3
import HandS.HeadHook4
import PySem.Challenge.RW_stayprice_k02_nights_of
set_option Elab.async false
set_option linter.all false
set_option maxRecDepth 100000
set_option maxHeartbeats 4000000
/-! Y0: short names of readings; promises by their number of arguments; heaps that grow; steps of a reading. -/
namespace Y
open PySem PySem.Spec PyProof.Rows L2

/-! ### short names for the readings of operators and built-ins -/
abbrev rAdd : R2 := rI0 fun i j => .int (i + j)
abbrev rSub : R2 := rI0 fun i j => .int (i - j)
abbrev rMul : R2 := rI CMul fun i j => .int (i * j)
abbrev rPow : R2 := rI CPow fun i j => .int (i ^ j.toNat)
abbrev rMod : R2 := rI (fun _ j => 0 < j) fun i j => .int (i % j)
abbrev rDivW : R2 := rI CDivW fun i j => .int (i / j)
abbrev rLt : R2 := rI0 fun i j => .bl (decide (i < j))
abbrev rLe : R2 := rI0 fun i j => .bl (decide (i ≤ j))
abbrev rGt : R2 := rI0 fun i j => .bl (decide (j < i))
abbrev rGe : R2 := rI0 fun i j => .bl (decide (j ≤ i))
abbrev rIsN : R2 := fun x y H Q => y = .non ∧ Q (.bl (decide (x = .non))) H
abbrev rNotN : R2 := fun x y H Q => y = .non ∧ Q (.bl (!decide (x = .non))) H
abbrev rAddS : R2 := fun x y H Q => ∃ i j, x = .str i ∧ y = .str j ∧ i.length + j.length ≤ sizeLine ∧ Q (.str (i ++ j)) H
abbrev rNeg : V → Hp → VK → Prop := rU fun i => .int (-i)
abbrev rAbs : List V → Hp → VK → Prop := fun xs H Q => ∃ i, xs = [.int i] ∧ Q (.int (if i < 0 then -i else i)) H
abbrev rMax2 : List V → Hp → VK → Prop := fun xs H Q => ∃ i j, xs = [.int i, .int j] ∧ Q (.int (if j > i then j else i)) H
abbrev rMin2 : List V → Hp → VK → Prop := fun xs H Q => ∃ i j, xs = [.int i, .int j] ∧ Q (.int (if j < i then j else i)) H
abbrev rInt1 : List V → Hp → VK → Prop := fun xs H Q => (∃ i, xs = [.int i] ∧ Q (.int i) H) ∨ ∃ k, xs = [.bl k] ∧ Q (.int (if k then 1 else 0)) H
abbrev rLen (K : PySem.W.Frag) : List V → Hp → VK → Prop := fun xs H Q => ∃ p ys, xs = [.ref p] ∧ (SqL K H p ys ∨ SqT K H p ys) ∧ Q (.int ys.length) H
abbrev rLenS : List V → Hp → VK → Prop := fun xs H Q => ∃ z, xs = [.str z] ∧ z.length ≤ sizeLine ∧ Q (.int z.length) H
abbrev rLenA (K : PySem.W.Frag) : List V → Hp → VK → Prop := fun xs H Q => ∃ x n, xs = [x] ∧ LenV K x H n ∧ Q (.int n) H
abbrev rListOf (K : PySem.W.Frag) : List V → Hp → VK → Prop := fun xs H Q => ∃ p ys, xs = [.ref p] ∧ (SqL K H p ys ∨ SqT K H p ys) ∧ ∀ l, H l = none → Q (.ref l) (upd H l (.lst ys))
abbrev rTupOf (K : PySem.W.Frag) : List V → Hp → VK → Prop := fun xs H Q => ∃ p ys, xs = [.ref p] ∧ ((SqL K H p ys ∧ ∀ l, H l = none → Q (.ref l) (upd H l (.tup ys))) ∨ (SqT K H p ys ∧ Q (.ref p) H))
abbrev rInsert : V → List V → Hp → VK → Prop := fun x vs H Q => ∃ (l : Addr) (xs : List V) (i : Int) (y : V), x = .ref l ∧ vs = [.int i, y] ∧ H l = some (.lst xs) ∧ xs.length < sizeLine ∧ 0 ≤ i ∧ i < 2 ^ 63 ∧ Q .non (upd H l (.lst (xs.take i.toNat ++ y :: xs.drop i.toNat)))
abbrev tTruth (K : PySem.W.Frag) (ta : TE) : TT := fun σ H Q => ta σ H fun x H1 => ∃ k, TruV K x H1 k ∧ Q k H1

/-! ### steps by what the reading is -/
section
variable {K : PySem.W.Frag} {σ : L2.St} {H : Hp} {Q : VK} {x y v : V} {i j : Int} {p : Addr} {xs : List V}
theorem g_c (q : Q v H) : tC v σ H Q := q
theorem g_op {r : R2} {ta tb : TE} (q : ta σ H fun x H1 => tb σ H1 fun y H2 => r x y H2 Q) : tOp r ta tb σ H Q := q
theorem g_un {r : V → Hp → VK → Prop} {ta : TE} (q : ta σ H fun x H1 => r x H1 Q) : tUn r ta σ H Q := q
theorem g_chain {r r' : R2} {ta tb tc : TE} (q : ta σ H fun x H1 => tb σ H1 fun y H2 => r x y H2 fun z H3 => ∃ k, z = .bl k ∧ (if k = true then tc σ H3 fun w' H4 => r' y w' H4 Q else Q (.bl false) H3)) : tChain r r' ta tb tc σ H Q := q
theorem g_tB {t : TE} {Q : Bool → Hp → Prop} (h : t σ H fun x H' => ∃ k, x = .bl k ∧ Q k H') : tB t σ H Q := h
theorem g_truth {ta : TE} {Q : Bool → Hp → Prop} (h : ta σ H fun x H1 => ∃ k, TruV K x H1 k ∧ Q k H1) : tTruth K ta σ H Q := h
theorem g_and {t u : TT} {Q : Bool → Hp → Prop} (h : t σ H fun c H1 => if c = true then u σ H1 Q else Q false H1) : tAnd t u σ H Q := h
theorem g_or {t u : TT} {Q : Bool → Hp → Prop} (h : t σ H fun c H1 => if c = true then Q true H1 else u σ H1 Q) : tOr t u σ H Q := h
theorem g_not {t : TT} {Q : Bool → Hp → Prop} (h : t σ H fun c H1 => Q (!c) H1) : tNot t σ H Q := h
theorem g_andV {ta tb : TE} (h : ta σ H fun x H1 => ∃ c, x = .bl c ∧ if c = true then tb σ H1 Q else Q (.bl false) H1) : tAndV ta tb σ H Q := h
theorem g_orV {ta tb : TE} (h : ta σ H fun x H1 => ∃ c, x = .bl c ∧ if c = true then Q (.bl true) H1 else tb σ H1 Q) : tOrV ta tb σ H Q := h
theorem g_notV {ta : TE} (h : ta σ H fun x H1 => ∃ c, x = .bl c ∧ Q (.bl (!c)) H1) : tNotV ta σ H Q := h
theorem g_if {t : TT} {ta tb : TE} (h : t σ H fun c H1 => if c = true then ta σ H1 Q else tb σ H1 Q) : tIf t ta tb σ H Q := h
theorem g_nil {Q : List V → Hp → Prop} (h : Q [] H) : tNil σ H Q := h
theorem g_cons {ta : TE} {tr : TA} {Q : List V → Hp → Prop} (h : ta σ H fun x H1 => tr σ H1 fun xs H2 => Q (x :: xs) H2) : tCons ta tr σ H Q := h
theorem g_tTup {t : TA} (h : t σ H fun xs H1 => xs.length ≤ sizeLine ∧ ∀ p, H1 p = none → Q (.ref p) (upd H1 p (.tup xs))) : tTup t σ H Q := h
theorem g_tLst {t : TA} (h : t σ H fun xs H1 => xs.length ≤ sizeLine ∧ ∀ p, H1 p = none → Q (.ref p) (upd H1 p (.lst xs))) : tLst t σ H Q := h
theorem g_cb {r : List V → Hp → VK → Prop} {t : TA} (h : t σ H fun vs H1 => r vs H1 Q) : tCB r t σ H Q := h
theorem g_call {sp : Sp} {dvs : List V} {E : XK} {t : TA} (h : t σ H fun vs H1 => sp (vs ++ dvs) H1 Q E) : tCall sp dvs E t σ H Q := h
theorem g_sl {r : V → Option Int → Option Int → Hp → VK → Prop} {te : TE} {tl th : TO} (h : te σ H fun x H1 => tl σ H1 fun l H2 => th σ H2 fun u H3 => r x l u H3 Q) : tSl r te tl th σ H Q := h
theorem g_wipe {a b : L2.St} {R : Prop} (h : a = b) (r : R) : a = b ∧ R := ⟨h, r⟩
theorem g_np {Q : Option Int → Hp → Prop} (h : Q none H) : tNoPart σ H Q := h
theorem g_pt {t : TE} {Q : Option Int → Hp → Prop} (h : t σ H fun x H1 => ∃ i, x = .int i ∧ Q (some i) H1) : tPart t σ H Q := h
theorem g_exI {R : Int → Prop} (q : R i) : ∃ i', V.int i = .int i' ∧ R i' := ⟨i, rfl, q⟩
theorem g_bm {T : String} {r : V → List V → Hp → VK → Prop} {to : TE} {t : TA} (h : to σ H fun x H1 => tyV K T x H1 ∧ t σ H1 fun xs H2 => r x xs H2 Q) : tBM K T r to t σ H Q := h
theorem g_bm0 {T : String} {r : V → List V → Hp → VK → Prop} {to : TE} (h : to σ H fun x H1 => tyV K T x H1 ∧ r x [] H1 Q) : tBM0 K T r to σ H Q := h
theorem g_tyL {R : Prop} (h : SqL K H p xs) (q : R) : tyV K "list" (.ref p) H ∧ R := ⟨.inl ⟨rfl, _, h⟩, q⟩
theorem g_yes {Q : Bool → Hp → Prop} (h : Q true H) : tYes σ H Q := h
theorem g_seq {t u : TS} {D : Ends} (h : t { D with nx := u D } σ H) : tSeq t u D σ H := h
theorem g_asg {te : TE} {g : TG} {D : Ends} (h : te σ H fun x H1 => g x σ H1 D.nx) : tAsg te g D σ H := h
theorem g_name {n : Nat} {Q : L2.St → Hp → Prop} (h : Q (σ.set n (some v)) H) : gName n v σ H Q := h
theorem g_sub {to ti : TE} {t : TSet} {Q : L2.St → Hp → Prop} (h : to σ H fun o H1 => ti σ H1 fun i H2 => t o i v H2 fun H3 => Q σ H3) : gSub to ti t v σ H Q := h
theorem g_gtup {n : Nat} {t : TGs} {Q : L2.St → Hp → Prop} (h : SqT K H p xs) (l : xs.length = n) (q : t xs σ H Q) : gTup K n t (.ref p) σ H Q := ⟨p, xs, rfl, h, l, q⟩
theorem g_gcons {t : TG} {u : TGs} {Q : L2.St → Hp → Prop} (h : t x σ H fun σ' H' => u xs σ' H' Q) : gCons t u (x :: xs) σ H Q := ⟨x, xs, rfl, h⟩
theorem g_gnil {Q : L2.St → Hp → Prop} (h : Q σ H) : gNil [] σ H Q := ⟨rfl, h⟩
theorem g_ifS {c : TT} {t u : TS} {D : Ends} (h : c σ H fun b H1 => if b = true then t D σ H1 else u D σ H1) : tIfS c t u D σ H := h
theorem g_ret {te : TE} {D : Ends} (h : te σ H D.rt) : tRet te D σ H := h
theorem g_drop {te : TE} {D : Ends} (h : te σ H fun _ H1 => D.nx σ H1) : tDrop te D σ H := h
theorem g_next {D : Ends} (h : D.nx σ H) : tNext D σ H := h
theorem g_par {ta : TA} {n m : Nat} {D : Ends} (h : ta σ H fun vs H1 => ∃ v w, vs = [v, w] ∧ D.nx ((σ.set n (some v)).set m (some w)) H1) : tPar n m ta D σ H := h
theorem g_lstRg {te : L2.St → Hp → (Int → Int → Hp → Prop) → Prop} (h : te σ H fun a b H1 => RgOk a b ∧ ∀ q, H1 q = none → Q (.ref q) (upd H1 q (.lst (rgV a b)))) : tLstRg te σ H Q := h
theorem g_rg2 {ta tb : TE} {Q : Int → Int → Hp → Prop} (h : ta σ H fun x H1 => tb σ H1 fun y H2 => ∃ i j, x = .int i ∧ y = .int j ∧ Q i j H2) : tRg2 ta tb σ H Q := h
theorem g_rg1 {ta : TE} {Q : Int → Int → Hp → Prop} (h : ta σ H fun x H1 => ∃ n, x = .int n ∧ Q 0 n H1) : tRg1 ta σ H Q := h
theorem g_exII {R : Int → Int → Prop} (q : R i j) : ∃ i' j', V.int i = .int i' ∧ V.int j = .int j' ∧ R i' j' := ⟨i, j, rfl, rfl, q⟩
theorem g_rng1 {ta : TA} {R : It → Hp → Prop} (h : ta σ H fun vs H1 => ∃ j : Int, vs = [.int j] ∧ -(2 ^ 62) ≤ j ∧ j < 2 ^ 62 ∧ R (Itr 0 j.toNat) H1) : iRng1 ta σ H R := h
theorem g_rng1b {R : Int → Prop} (a : -(2 ^ 62) ≤ i) (b : i < 2 ^ 62) (q : R i) : ∃ j : Int, [V.int i] = [.int j] ∧ -(2 ^ 62) ≤ j ∧ j < 2 ^ 62 ∧ R j := ⟨i, rfl, a, b, q⟩
theorem g_rng2 {ta : TA} {R : It → Hp → Prop} (h : ta σ H fun vs H1 => ∃ i j : Int, vs = [.int i, .int j] ∧ (-(2 ^ 62) ≤ i ∧ i < 2 ^ 62 ∧ -(2 ^ 62) ≤ j ∧ j < 2 ^ 62) ∧ R (Itr i (j - i).toNat) H1) : iRng2 ta σ H R := h
theorem g_rng2b {R : Int → Int → Prop} (a : -(2 ^ 62) ≤ i ∧ i < 2 ^ 62 ∧ -(2 ^ 62) ≤ j ∧ j < 2 ^ 62) (q : R i j) : ∃ i' j' : Int, [V.int i, V.int j] = [.int i', .int j'] ∧ (-(2 ^ 62) ≤ i' ∧ i' < 2 ^ 62 ∧ -(2 ^ 62) ≤ j' ∧ j' < 2 ^ 62) ∧ R i' j' := ⟨i, j, rfl, a, q⟩
theorem g_iList {tl : TE} {R : It → Hp → Prop} (h : tl σ H fun x H1 => ∃ a, x = .ref a ∧ (∃ xs, SqL K H1 a xs) ∧ R (Itl K a) H1) : iList K tl σ H R := h
theorem g_iListb {R : Addr → Prop} (h : SqL K H p xs) (q : R p) : ∃ a, V.ref p = .ref a ∧ (∃ xs, SqL K H a xs) ∧ R a := ⟨p, rfl, ⟨xs, h⟩, q⟩
theorem g_iTup {tl : TE} {R : It → Hp → Prop} (h : tl σ H fun x H1 => ∃ a, x = .ref a ∧ (∃ xs, SqT K H1 a xs) ∧ R (Itt K a) H1) : iTup K tl σ H R := h
theorem g_iTupb {R : Addr → Prop} (h : SqT K H p xs) (q : R p) : ∃ a, V.ref p = .ref a ∧ (∃ xs, SqT K H a xs) ∧ R a := ⟨p, rfl, ⟨xs, h⟩, q⟩
theorem g_for {wi : TI} {g : TG} {tb : TS} {D : Ends} (h : wi σ H fun J H1 => ∃ W : Nat → Nat → L2.St → Hp → Prop, (∃ m, W 0 m σ H1) ∧ ∀ i m σ H, W i m σ H →
  (J.stop i H ∧ D.nx σ H) ∨ (J.go i H ∧ ∃ N : L2.St → Hp → Prop, (∀ σ' H', N σ' H' → ∃ m', m' < m ∧ W (i + 1) m' σ' H') ∧ ∀ x H', J.yld i H x H' → g x σ H' fun σ2 H2 => tb { D with nx := N, ct := N, bk := D.nx } σ2 H2)) : tFor wi g tb D σ H := h
theorem g_lc {wi : TI} {g : TG} {tt : TT} {te : TE} {vs : List Nat} (h : wi σ H fun J H1 => ∀ D, H1 D = none → ∃ W : Nat → Nat → Hp → Prop, (∃ m, W 0 m (upd H1 D (.lst []))) ∧ ∀ i m H, W i m H →
  (J.stop i H ∧ Q (.ref D) H) ∨ (J.go i H ∧ ∃ Nx : Hp → Prop, (∀ H', Nx H' → ∃ m', m' < m ∧ W (i + 1) m' H') ∧ ∀ x H', J.yld i H x H' → g x (wipe σ vs) H' fun σ2 H2 => wipe σ2 vs = wipe σ vs ∧ tt σ2 H2 fun b H3 =>
    if b = true then te σ2 H3 fun y H4 => ∃ acc, H4 D = some (.lst acc) ∧ acc.length < sizeLine ∧ Nx (upd H4 D (.lst (acc ++ [y]))) else Nx H3)) : tLc wi g tt te vs σ H Q := h
theorem g_var {n : Nat} (h : σ[n]? = some (some v)) (q : Q v H) : tVar n σ H Q := ⟨v, h, q⟩
theorem g_rI0 {g : Int → Int → V} (q : Q (g i j) H) : rI0 g (.int i) (.int j) H Q := ⟨i, j, rfl, rfl, q⟩
theorem g_rI {C : Int → Int → Prop} {g : Int → Int → V} (c : C i j) (q : Q (g i j) H) : rI C g (.int i) (.int j) H Q := ⟨i, j, rfl, rfl, c, q⟩
theorem g_pow6 (q : Q (.int 1000000) H) : rPow (.int 10) (.int 6) H Q := ⟨10, 6, rfl, rfl, ⟨by decide, by decide, by decide⟩, q⟩
theorem g_pow9 (q : Q (.int 1000000000) H) : rPow (.int 10) (.int 9) H Q := ⟨10, 9, rfl, rfl, ⟨by decide, by decide, by decide⟩, q⟩
theorem g_pow12 (q : Q (.int 1000000000000) H) : rPow (.int 10) (.int 12) H Q := ⟨10, 12, rfl, rfl, ⟨by decide, by decide, by decide⟩, q⟩
theorem g_pow18 (q : Q (.int 1000000000000000000) H) : rPow (.int 10) (.int 18) H Q := ⟨10, 18, rfl, rfl, ⟨by decide, by decide, by decide⟩, q⟩
theorem g_pow60 (q : Q (.int 1000000000000000000000000000000000000000000000000000000000000) H) : rPow (.int 10) (.int 60) H Q := ⟨10, 60, rfl, rfl, ⟨by decide, by decide, by decide⟩, q⟩
theorem g_eq (c : scal x y = true) (q : Q (.bl (decide (x = y))) H) : rEq x y H Q := ⟨c, q⟩
theorem g_ne (c : scal x y = true) (q : Q (.bl (!decide (x = y))) H) : rNe x y H Q := ⟨c, q⟩
theorem g_ixL (h : SqL K H p xs) (a : atI xs i = some v) (q : Q v H) : rIxL K (.ref p) (.int i) H Q := ⟨p, xs, i, v, rfl, rfl, h, a, q⟩
theorem g_ixT (h : SqT K H p xs) (a : atI xs i = some v) (q : Q v H) : rIxT K (.ref p) (.int i) H Q := ⟨p, xs, i, v, rfl, rfl, h, a, q⟩
theorem g_setL {Q : Hp → Prop} {n : Nat} (h : H p = some (.lst xs)) (a : ixN xs.length i = some n) (q : Q (upd H p (.lst (xs.set n v)))) : rSetL (.ref p) (.int i) v H Q := ⟨p, xs, i, n, rfl, rfl, h, a, q⟩
theorem g_len (h : SqL K H p xs ∨ SqT K H p xs) (q : Q (.int xs.length) H) : rLen K [.ref p] H Q := ⟨p, xs, rfl, h, q⟩
theorem g_test {t : TE} {Q : Bool → Hp → Prop} (h : t σ H fun x H' => ∃ k, x = .bl k ∧ Q k H') : tTest t σ H Q := h
theorem g_bl {R : Bool → Prop} {k : Bool} (q : R k) : ∃ k', V.bl k = .bl k' ∧ R k' := ⟨k, rfl, q⟩
theorem g_sz {n : Nat} {R : Prop} (z : n ≤ sizeLine) (q : R) : n ≤ sizeLine ∧ R := ⟨z, q⟩
theorem g_slL {lo hi : Option Int} (h : SqL K H p xs) (q : ∀ a, H a = none → Q (.ref a) (upd H a (.lst (cutV xs lo hi)))) : rSlL K (.ref p) lo hi H Q := ⟨p, xs, rfl, h, q⟩
theorem g_slT {lo hi : Option Int} (h : SqT K H p xs) (w : ¬ (HT.sIx xs.length 0 lo = 0 ∧ HT.sIx xs.length xs.length hi = xs.length)) (q : ∀ a, H a = none → Q (.ref a) (upd H a (.tup (cutV xs lo hi)))) : rSlT K (.ref p) lo hi H Q := ⟨p, xs, rfl, h, w, q⟩
theorem g_listOf (h : SqL K H p xs ∨ SqT K H p xs) (q : ∀ a, H a = none → Q (.ref a) (upd H a (.lst xs))) : rListOf K [.ref p] H Q := ⟨p, xs, rfl, h, q⟩
theorem g_append (h : H p = some (.lst xs)) (z : xs.length < sizeLine) (q : Q .non (upd H p (.lst (xs ++ [y])))) : rAppend (.ref p) [y] H Q := ⟨p, xs, y, rfl, rfl, h, z, q⟩
theorem g_popAt {n : Nat} (h : H p = some (.lst xs)) (b1 : -(2 ^ 63) ≤ i) (b2 : i < 2 ^ 63) (s : seqIndex? i xs.length = some n) (a : xs[n]? = some v) (q : Q v (upd H p (.lst (xs.eraseIdx n)))) : rPopAt (.ref p) [.int i] H Q := ⟨p, xs, i, n, v, rfl, rfl, h, b1, b2, s, a, q⟩
theorem g_isN (q : Q (.bl (decide (x = .non))) H) : rIsN x .non H Q := ⟨rfl, q⟩
theorem g_notN (q : Q (.bl (!decide (x = .non))) H) : rNotN x .non H Q := ⟨rfl, q⟩
theorem g_abs (q : Q (.int (if i < 0 then -i else i)) H) : rAbs [.int i] H Q := ⟨i, rfl, q⟩
theorem g_max2 (q : Q (.int (if j > i then j else i)) H) : rMax2 [.int i, .int j] H Q := ⟨i, j, rfl, q⟩
theorem g_min2 (q : Q (.int (if j < i then j else i)) H) : rMin2 [.int i, .int j] H Q := ⟨i, j, rfl, q⟩
end
section
variable {K : PySem.W.Frag} {H : Hp} {Q : VK} {i : Int} {p : Addr} {xs : List V}
theorem g_isi_int_int  (q : Q (.bl true) H) : rIsi K [.int i, .ty "int"] H Q := ⟨_, _, .type "int", .type "int", true, rfl, .ty _, .base (.int i), kit_ty (by decide +kernel), q⟩
theorem g_isi_int_bool  (q : Q (.bl false) H) : rIsi K [.int i, .ty "bool"] H Q := ⟨_, _, .type "int", .type "bool", false, rfl, .ty _, .base (.int i), kit_ty (by decide +kernel), q⟩
theorem g_isi_int_str  (q : Q (.bl false) H) : rIsi K [.int i, .ty "str"] H Q := ⟨_, _, .type "int", .type "str", false, rfl, .ty _, .base (.int i), kit_ty (by decide +kernel), q⟩
theorem g_isi_int_list  (q : Q (.bl false) H) : rIsi K [.int i, .ty "list"] H Q := ⟨_, _, .type "int", .type "list", false, rfl, .ty _, .base (.int i), kit_ty (by decide +kernel), q⟩
theorem g_isi_int_tuple  (q : Q (.bl false) H) : rIsi K [.int i, .ty "tuple"] H Q := ⟨_, _, .type "int", .type "tuple", false, rfl, .ty _, .base (.int i), kit_ty (by decide +kernel), q⟩
theorem g_isi_bl_int {k : Bool} (q : Q (.bl true) H) : rIsi K [.bl k, .ty "int"] H Q := ⟨_, _, .type "bool", .type "int", true, rfl, .ty _, .base (.bl k), kit_ty (by decide +kernel), q⟩
theorem g_isi_bl_bool {k : Bool} (q : Q (.bl true) H) : rIsi K [.bl k, .ty "bool"] H Q := ⟨_, _, .type "bool", .type "bool", true, rfl, .ty _, .base (.bl k), kit_ty (by decide +kernel), q⟩
theorem g_isi_bl_str {k : Bool} (q : Q (.bl false) H) : rIsi K [.bl k, .ty "str"] H Q := ⟨_, _, .type "bool", .type "str", false, rfl, .ty _, .base (.bl k), kit_ty (by decide +kernel), q⟩
theorem g_isi_bl_list {k : Bool} (q : Q (.bl false) H) : rIsi K [.bl k, .ty "list"] H Q := ⟨_, _, .type "bool", .type "list", false, rfl, .ty _, .base (.bl k), kit_ty (by decide +kernel), q⟩
theorem g_isi_bl_tuple {k : Bool} (q : Q (.bl false) H) : rIsi K [.bl k, .ty "tuple"] H Q := ⟨_, _, .type "bool", .type "tuple", false, rfl, .ty _, .base (.bl k), kit_ty (by decide +kernel), q⟩
theorem g_isi_str_int {z : Str} (q : Q (.bl false) H) : rIsi K [.str z, .ty "int"] H Q := ⟨_, _, .type "str", .type "int", false, rfl, .ty _, .base (.str z), kit_ty (by decide +kernel), q⟩
theorem g_isi_str_bool {z : Str} (q : Q (.bl false) H) : rIsi K [.str z, .ty "bool"] H Q := ⟨_, _, .type "str", .type "bool", false, rfl, .ty _, .base (.str z), kit_ty (by decide +kernel), q⟩
theorem g_isi_str_str {z : Str} (q : Q (.bl true) H) : rIsi K [.str z, .ty "str"] H Q := ⟨_, _, .type "str", .type "str", true, rfl, .ty _, .base (.str z), kit_ty (by decide +kernel), q⟩
theorem g_isi_str_list {z : Str} (q : Q (.bl false) H) : rIsi K [.str z, .ty "list"] H Q := ⟨_, _, .type "str", .type "list", false, rfl, .ty _, .base (.str z), kit_ty (by decide +kernel), q⟩
theorem g_isi_str_tuple {z : Str} (q : Q (.bl false) H) : rIsi K [.str z, .ty "tuple"] H Q := ⟨_, _, .type "str", .type "tuple", false, rfl, .ty _, .base (.str z), kit_ty (by decide +kernel), q⟩
theorem g_isi_non_int  (q : Q (.bl false) H) : rIsi K [.non, .ty "int"] H Q := ⟨_, _, .type "NoneType", .type "int", false, rfl, .ty _, .base .non, kit_ty (by decide +kernel), q⟩
theorem g_isi_non_bool  (q : Q (.bl false) H) : rIsi K [.non, .ty "bool"] H Q := ⟨_, _, .type "NoneType", .type "bool", false, rfl, .ty _, .base .non, kit_ty (by decide +kernel), q⟩
theorem g_isi_non_str  (q : Q (.bl false) H) : rIsi K [.non, .ty "str"] H Q := ⟨_, _, .type "NoneType", .type "str", false, rfl, .ty _, .base .non, kit_ty (by decide +kernel), q⟩
theorem g_isi_non_list  (q : Q (.bl false) H) : rIsi K [.non, .ty "list"] H Q := ⟨_, _, .type "NoneType", .type "list", false, rfl, .ty _, .base .non, kit_ty (by decide +kernel), q⟩
theorem g_isi_non_tuple  (q : Q (.bl false) H) : rIsi K [.non, .ty "tuple"] H Q := ⟨_, _, .type "NoneType", .type "tuple", false, rfl, .ty _, .base .non, kit_ty (by decide +kernel), q⟩
theorem g_isi_lst_int (h : H p = some (.lst xs)) (q : Q (.bl false) H) : rIsi K [.ref p, .ty "int"] H Q := ⟨_, _, .type "list", .type "int", false, rfl, .ty _, .base (.lst h), kit_ty (by decide +kernel), q⟩
theorem g_isi_lst_bool (h : H p = some (.lst xs)) (q : Q (.bl false) H) : rIsi K [.ref p, .ty "bool"] H Q := ⟨_, _, .type "list", .type "bool", false, rfl, .ty _, .base (.lst h), kit_ty (by decide +kernel), q⟩
theorem g_isi_lst_str (h : H p = some (.lst xs)) (q : Q (.bl false) H) : rIsi K [.ref p, .ty "str"] H Q := ⟨_, _, .type "list", .type "str", false, rfl, .ty _, .base (.lst h), kit_ty (by decide +kernel), q⟩
theorem g_isi_lst_list (h : H p = some (.lst xs)) (q : Q (.bl true) H) : rIsi K [.ref p, .ty "list"] H Q := ⟨_, _, .type "list", .type "list", true, rfl, .ty _, .base (.lst h), kit_ty (by decide +kernel), q⟩
theorem g_isi_lst_tuple (h : H p = some (.lst xs)) (q : Q (.bl false) H) : rIsi K [.ref p, .ty "tuple"] H Q := ⟨_, _, .type "list", .type "tuple", false, rfl, .ty _, .base (.lst h), kit_ty (by decide +kernel), q⟩
theorem g_isi_tup_int (h : H p = some (.tup xs)) (q : Q (.bl false) H) : rIsi K [.ref p, .ty "int"] H Q := ⟨_, _, .type "tuple", .type "int", false, rfl, .ty _, .base (.tup h), kit_ty (by decide +kernel), q⟩
theorem g_isi_tup_bool (h : H p = some (.tup xs)) (q : Q (.bl false) H) : rIsi K [.ref p, .ty "bool"] H Q := ⟨_, _, .type "tuple", .type "bool", false, rfl, .ty _, .base (.tup h), kit_ty (by decide +kernel), q⟩
theorem g_isi_tup_str (h : H p = some (.tup xs)) (q : Q (.bl false) H) : rIsi K [.ref p, .ty "str"] H Q := ⟨_, _, .type "tuple", .type "str", false, rfl, .ty _, .base (.tup h), kit_ty (by decide +kernel), q⟩
theorem g_isi_tup_list (h : H p = some (.tup xs)) (q : Q (.bl false) H) : rIsi K [.ref p, .ty "list"] H Q := ⟨_, _, .type "tuple", .type "list", false, rfl, .ty _, .base (.tup h), kit_ty (by decide +kernel), q⟩
theorem g_isi_tup_tuple (h : H p = some (.tup xs)) (q : Q (.bl true) H) : rIsi K [.ref p, .ty "tuple"] H Q := ⟨_, _, .type "tuple", .type "tuple", true, rfl, .ty _, .base (.tup h), kit_ty (by decide +kernel), q⟩
end
/-! ### promises by the number of arguments -/
abbrev Sp0 (p : Hp → VK → XK → Prop) : Sp := fun vs H Q E => vs = [] ∧ p H Q E
abbrev Sp1 (p : V → Hp → VK → XK → Prop) : Sp := fun vs H Q E => ∃ a, vs = [a] ∧ p a H Q E
abbrev Sp2 (p : V → V → Hp → VK → XK → Prop) : Sp := fun vs H Q E => ∃ a b, vs = [a, b] ∧ p a b H Q E
abbrev Sp3 (p : V → V → V → Hp → VK → XK → Prop) : Sp := fun vs H Q E => ∃ a b c, vs = [a, b, c] ∧ p a b c H Q E
abbrev Sp4 (p : V → V → V → V → Hp → VK → XK → Prop) : Sp := fun vs H Q E => ∃ a b c d, vs = [a, b, c, d] ∧ p a b c d H Q E
abbrev Sp5 (p : V → V → V → V → V → Hp → VK → XK → Prop) : Sp := fun vs H Q E => ∃ a b c d e, vs = [a, b, c, d, e] ∧ p a b c d e H Q E

/-! ### a def that may be called by its name, a class that may be made, a method -/
structure Cal (P : Program) (w : World) (K : PySem.W.Frag) (mg : Str → Option Value) (base : Heap) (CX : CXT) (k : Nat) (x : Str) (sp : Sp) (dvs : List V) : Prop where
  ex : ∃ (f : Addr) (fd : FuncData) (ps : List Str) (ds : List Value), FnOk P w K mg base CX k f fd ps sp ∧ mg x = some (.ref f) ∧ PySem.W.keepIn K (.ref f) = true ∧ Binds K fd ps ds ∧ Vals dvs ds
structure Mak (P : Program) (w : World) (K : PySem.W.Frag) (mg : Str → Option Value) (base : Heap) (CX : CXT) (k : Nat) (x : Str) (C : Addr) (sp : Sp) (dvs : List V) : Prop where
  ex : ∃ (f : Addr) (fd : FuncData) (ps : List Str) (ds : List Value), Mk K C f ∧ FnOk P w K mg base CX k f fd ps sp ∧ mg x = some (.ref C) ∧ Binds K fd ps ds ∧ Vals dvs ds
structure Met (P : Program) (w : World) (K : PySem.W.Frag) (mg : Str → Option Value) (base : Heap) (CX : CXT) (k : Nat) (C : Addr) (m : Str) (sp : Sp) (dvs : List V) : Prop where
  ex : ∃ (f : Addr) (fd : FuncData) (ps : List Str) (ds : List Value), Cls K C ∧ Meth K C m f ∧ FnOk P w K mg base CX k f fd ps sp ∧ Binds K fd ps ds ∧ Vals dvs ds
section
variable {X : Cx} {CX : CXT} {E : XK} {k j : Nat} {C : Addr} {x m : Str} {sp : Sp} {dvs : List V} {p pos apos : Pos} {e o : Expr} {es : List Expr} {ta : TE} {t : TA}
theorem pe_c (c : Cal X.prog X.w X.K X.mg X.base CX k x sp dvs) (hr : Room j X.A) (hk : k ≤ j) (hg : Gl X x) (hx : Passes CX X E) (ha : PA X (e :: es) t)
    (hdb : (x == ("__debug__" : Str)) = false := by decide) (he : starEach (e :: es) X.env = (false, eval e X.env) :: starEach es X.env := by rfl) (hpl : (backTo pos (starEach es X.env)).any (·.1) = false := by rfl) :
    PE X (.Call (.Name x p) (e :: es) [] pos) (tCall sp dvs E t) := by
  obtain ⟨f, fd, ps, ds, F, hm, kp, b, d⟩ := c.ex
  exact pe_call F (hr.mono hk) hg hm kp b d hx ha hdb he hpl
theorem pe_k (c : Mak X.prog X.w X.K X.mg X.base CX k x C sp dvs) (hr : Room j X.A) (hk : k + 1 ≤ j) (hg : Gl X x) (hx : Passes CX X E) (ha : PA X (e :: es) t)
    (hdb : (x == ("__debug__" : Str)) = false := by decide) (he : starEach (e :: es) X.env = (false, eval e X.env) :: starEach es X.env := by rfl) (hpl : (backTo pos (starEach es X.env)).any (·.1) = false := by rfl) :
    PE X (.Call (.Name x p) (e :: es) [] pos) (tMake C sp dvs E t) := by
  obtain ⟨f, fd, ps, ds, M, F, hm, b, d⟩ := c.ex
  exact pe_make M F (hr.mono hk) hg hm b d hx ha hdb he hpl
theorem pe_k0 (c : Mak X.prog X.w X.K X.mg X.base CX k x C sp dvs) (hr : Room j X.A) (hk : k + 1 ≤ j) (hg : Gl X x) (hx : Passes CX X E) (hdb : (x == ("__debug__" : Str)) = false := by decide) :
    PE X (.Call (.Name x p) [] [] pos) (tMake C sp dvs E tNil) := by
  obtain ⟨f, fd, ps, ds, M, F, hm, b, d⟩ := c.ex
  exact pe_make0 M F (hr.mono hk) hg hm b d hx hdb
theorem pe_m {pl : Sem Bool} (c : Met X.prog X.w X.K X.mg X.base CX k C m sp dvs) (hr : Room j X.A) (hk : k ≤ j) (hx : Passes CX X E) (he : PE X o ta) (ha : PA X (e :: es) t)
    (hst : starEach (e :: es) X.env = (false, eval e X.env) :: starEach es X.env := by rfl) (hpl : (backTo pos (starEach es X.env)).any (·.1) = false := by rfl)
    (ht : eval (.Call (.Attribute o m apos) (e :: es) [] pos) X.env = (do
      let ov ← eval o X.env
      standAt apos.atName
      let (f, first) ← holding [ov] (getMethod ov m pl)
      callWith pos f first (backTo pos (starEach (e :: es) X.env)) (backToKw pos (keywordEach [] X.env))) := by rfl) :
    PE X (.Call (.Attribute o m apos) (e :: es) [] pos) (tMeth C m sp dvs E ta t) := by
  obtain ⟨f, fd, ps, ds, hc, hm, F, b, d⟩ := c.ex
  exact pe_meth (pl := pl) he hc hm F (hr.mono hk) b d hx ha hst hpl ht
theorem pe_m0 {pl : Sem Bool} (c : Met X.prog X.w X.K X.mg X.base CX k C m sp dvs) (hr : Room j X.A) (hk : k ≤ j) (hx : Passes CX X E) (he : PE X o ta)
    (ht : eval (.Call (.Attribute o m apos) [] [] pos) X.env = (do
      let ov ← eval o X.env
      standAt apos.atName
      let (f, first) ← holding [ov] (getMethod ov m pl)
      callWith pos f first (backTo pos (starEach [] X.env)) (backToKw pos (keywordEach [] X.env))) := by rfl) :
    PE X (.Call (.Attribute o m apos) [] [] pos) (tMeth C m sp dvs E ta tNil) := by
  obtain ⟨f, fd, ps, ds, hc, hm, F, b, d⟩ := c.ex
  exact pe_meth0 (pl := pl) he hc hm F (hr.mono hk) b d hx ht
end

/-! ### heaps: all but some places is kept -/
/-- all that stood stands, but what is at the places of L -/
def Kp (L : List Addr) (H H' : Hp) : Prop := ∀ a o, H a = some o → a ∉ L → H' a = some o
theorem Kp.refl (L : List Addr) (H : Hp) : Kp L H H := fun _ _ h _ => h
theorem Kp.trans {L : List Addr} {H H1 H2 : Hp} (a : Kp L H H1) (b : Kp L H1 H2) : Kp L H H2 := fun c o h n => b c o (a c o h n) n
theorem Kp.mono {L M : List Addr} {H H' : Hp} (a : Kp L H H') (h : ∀ x ∈ L, x ∈ M) : Kp M H H' := fun c o e n => a c o e fun z => n (h c z)
theorem Kp.same {H H' : Hp} (a : Kp [] H H') : Same H H' := fun c o e => a c o e (by simp)
theorem Same.kp {H H' : Hp} (a : Same H H') (L : List Addr) : Kp L H H' := fun c o e _ => a c o e
theorem same_new {H : Hp} {p : Addr} {o : HO} (h : H p = none) : Same H (upd H p o) := fun b x e => by
  rw [upd_ne (ne_of_none e h)]
  exact e
theorem kp_upd {H : Hp} {p : Addr} {o : HO} {L : List Addr} (h : p ∈ L) : Kp L H (upd H p o) := fun b x e n => by
  rw [upd_ne fun z => n (by rw [z]; exact h)]
  exact e
theorem Kp.new {L : List Addr} {H H' : Hp} {p : Addr} {o : HO} (a : Kp L H H') (h : H' p = none) : Kp L H (upd H' p o) := a.trans (Same.kp (same_new h) L)
theorem Kp.put {L : List Addr} {H H' : Hp} {p : Addr} {o : HO} (a : Kp L H H') (h : p ∈ L) : Kp L H (upd H' p o) := a.trans (kp_upd h)
/-- a place that H did not know may change -/
theorem Kp.own {L : List Addr} {H H' : Hp} {p : Addr} {o : HO} (a : Kp L H H') (h : H p = none) : Kp L H (upd H' p o) := fun b x e n => by
  rw [upd_ne (ne_of_none e h)]
  exact a b x e n
theorem SqT.kp {K : PySem.W.Frag} {L : List Addr} {H H' : Hp} {a : Addr} {xs : List V} (k : Kp L H H') (n : a ∉ L) (h : SqT K H a xs) : SqT K H' a xs := by
  rcases h with (h | ⟨o, h⟩) | h
  · exact .inl (.inl (k _ _ h n))
  · exact .inl (.inr ⟨o, k _ _ h n⟩)
  · exact .inr h
theorem SqL.kp {K : PySem.W.Frag} {L : List Addr} {H H' : Hp} {a : Addr} {xs : List V} (k : Kp L H H') (n : a ∉ L) (h : SqL K H a xs) : SqL K H' a xs := by
  rcases h with (h | ⟨o, h⟩) | h
  · exact .inl (.inl (k _ _ h n))
  · exact .inl (.inr ⟨o, k _ _ h n⟩)
  · exact .inr h
theorem Same.seqT {K : PySem.W.Frag} {H H' : Hp} {a : Addr} {xs : List V} (e : Same H H') (h : SqT K H a xs) : SqT K H' a xs := SqT.kp (Same.kp e []) (by simp) h
theorem get_same {H H' : Hp} {p : Addr} {o : HO} (e : Same H H') (h : H p = some o) : H' p = some o := e p o h
theorem get_kp {L : List Addr} {H H' : Hp} {p : Addr} {o : HO} (e : Kp L H H') (h : H p = some o) (n : p ∉ L) : H' p = some o := e p o h n
theorem at_new {H : Hp} {p a : Addr} {o u : HO} (hp : H p = none) (h : H a = some o) : upd H p u a = some o := by
  rw [upd_ne (ne_of_none h hp)]
  exact h
theorem at_ne {H : Hp} {p a : Addr} {o u : HO} (n : a ≠ p) (h : H a = some o) : upd H p u a = some o := by
  rw [upd_ne n]
  exact h
theorem ne_new {H : Hp} {p a : Addr} {o : HO} (hp : H p = none) (h : H a = some o) : a ≠ p := ne_of_none h hp
theorem ne_new' {H : Hp} {p a : Addr} {o : HO} (hp : H p = none) (h : H a = some o) : p ≠ a := (ne_of_none h hp).symm
theorem sm_new {H H' : Hp} {p : Addr} {o : HO} (hp : H' p = none) (h : Same H H') : Same H (upd H' p o) := h.trans (same_new hp)
theorem sm_tr {H H1 H2 : Hp} (h : Same H1 H2) (e : Same H H1) : Same H H2 := e.trans h
theorem sm_own {H H' : Hp} {p : Addr} {o : HO} (hp : H p = none) (h : Same H H') : Same H (upd H' p o) := fun b x e => at_ne (ne_of_none e hp) (h b x e)
theorem fr_of {H H' : Hp} {p : Addr} (h : H' p = none) (e : Same H H') : H p = none := e.free h
theorem sq_or {K : PySem.W.Frag} {H : Hp} {p : Addr} {xs : List V} (h : H p = some (.lst xs)) : SqL K H p xs ∨ SqT K H p xs := .inl (SqL.of h)
theorem sq_orT {K : PySem.W.Frag} {H : Hp} {p : Addr} {xs : List V} (h : H p = some (.tup xs)) : SqL K H p xs ∨ SqT K H p xs := .inr (SqT.of h)
theorem atI_map {xs : List Int} {i : Int} {v : Int} (h : atI xs i = some v) : atI (xs.map V.int) i = some (V.int v) := by
  obtain ⟨j, h1, h2, h3, h4, h5⟩ := atI_get h
  unfold atI at h ⊢
  rw [List.length_map]
  cases e : ixN xs.length i with
  | none => rw [e] at h; cases h
  | some j =>
    rw [e] at h
    have h' : xs[j]? = some v := h
    show (xs.map V.int)[j]? = _
    rw [List.getElem?_map, h']
    rfl
theorem atI_zero {x : V} {r : List V} : atI (x :: r) 0 = some x := by
  have h : (x :: r)[0]? = some x := rfl
  exact atI_nat (j := 0) h
theorem ite_t {c : Bool} {A B : Prop} (h : c = true) (x : A) : if c = true then A else B := by
  rw [if_pos h]
  exact x
theorem ite_f {c : Bool} {A B : Prop} (h : c = false) (x : B) : if c = true then A else B := by
  rw [h, if_neg Bool.false_ne_true]
  exact x
theorem ite_dt {p : Prop} [Decidable p] {A B : Prop} (h : p) (x : A) : if decide p = true then A else B := ite_t (decide_eq_true h) x
theorem ite_df {p : Prop} [Decidable p] {A B : Prop} (h : ¬ p) (x : B) : if decide p = true then A else B := ite_f (decide_eq_false h) x
theorem ite_b {c : Bool} {A B : Prop} (h1 : c = true → A) (h2 : c = false → B) : if c = true then A else B := by
  cases c with
  | true => rw [if_pos rfl]; exact h1 rfl
  | false => rw [if_neg Bool.false_ne_true]; exact h2 rfl
theorem ite_d {p : Prop} [Decidable p] {A B : Prop} (h1 : p → A) (h2 : ¬ p → B) : if decide p = true then A else B := ite_b (fun h => h1 (of_decide_eq_true h)) fun h => h2 (of_decide_eq_false h)
theorem ite_nt {A B : Prop} (x : B) : if (!true) = true then A else B := ite_f rfl x
theorem ite_nf {A B : Prop} (x : A) : if (!false) = true then A else B := ite_t rfl x
theorem ite_nd {p : Prop} [Decidable p] {A B : Prop} (h1 : p → B) (h2 : ¬ p → A) : if (!decide p) = true then A else B := ite_b (fun h => h2 (by simpa using h)) fun h => h1 (by simpa using h)
theorem ite_ndt {p : Prop} [Decidable p] {A B : Prop} (h : p) (x : B) : if (!decide p) = true then A else B := ite_f (by simpa using h) x
theorem ite_ndf {p : Prop} [Decidable p] {A B : Prop} (h : ¬ p) (x : A) : if (!decide p) = true then A else B := ite_t (by simpa using h) x
theorem int_eq {i j : Int} : decide (V.int i = V.int j) = decide (i = j) := by
  by_cases h : i = j
  · subst h; simp
  · simp [h]
theorem str_eq {i j : Str} : decide (V.str i = V.str j) = decide (i = j) := by
  by_cases h : i = j
  · subst h; simp
  · simp [h]
theorem bl_eq {i j : Bool} : decide (V.bl i = V.bl j) = decide (i = j) := by
  by_cases h : i = j
  · subst h; simp
  · simp [h]
theorem map_get {α : Type} {f : α → V} {ns : List α} {i : Nat} {y : V} (h : (ns.map f)[i]? = some y) : ∃ z, y = f z ∧ ns[i]? = some z := by
  rw [List.getElem?_map] at h
  cases e : ns[i]? with
  | none => rw [e] at h; cases h
  | some z => rw [e] at h; exact ⟨z, (Option.some.inj h).symm, rfl⟩
theorem cut_to {xs : List V} {n : Int} (h : 0 ≤ n) : cutV xs none (some n) = xs.take n.toNat := by
  obtain ⟨k, rfl⟩ : ∃ k : Nat, n = k := ⟨n.toNat, by omega⟩
  unfold cutV
  rw [HT.sIx_none, HT.sIx_nat]
  simp only [List.drop_zero, Nat.sub_zero, Int.toNat_natCast]
  rw [List.take_eq_take_iff]
  simp
theorem cut_from {xs : List V} {n : Int} (h : 0 ≤ n) : cutV xs (some n) none = xs.drop n.toNat := by
  obtain ⟨k, rfl⟩ : ∃ k : Nat, n = k := ⟨n.toNat, by omega⟩
  unfold cutV
  rw [HT.sIx_none, HT.sIx_nat]
  simp only [Int.toNat_natCast]
  by_cases hk : k ≤ xs.length
  · rw [Nat.min_eq_left hk, List.take_of_length_le (by rw [List.length_drop]; omega)]
  · rw [Nat.min_eq_right (by omega), List.drop_of_length_le (by omega), List.drop_of_length_le (by omega)]
    simp
theorem cut_mid {xs : List V} {n m : Int} (h : 0 ≤ n) (h' : 0 ≤ m) : cutV xs (some n) (some m) = (xs.take m.toNat).drop n.toNat := by
  obtain ⟨k, rfl⟩ : ∃ k : Nat, n = k := ⟨n.toNat, by omega⟩
  obtain ⟨l, rfl⟩ : ∃ l : Nat, m = l := ⟨m.toNat, by omega⟩
  unfold cutV
  rw [HT.sIx_nat, HT.sIx_nat]
  simp only [Int.toNat_natCast]
  rw [List.drop_take]
  by_cases hk : k ≤ xs.length
  · rw [Nat.min_eq_left hk, List.take_eq_take_iff]
    simp
    omega
  · rw [Nat.min_eq_right (show xs.length ≤ k by omega), List.drop_of_length_le (Nat.le_refl _), List.drop_of_length_le (by omega)]
    simp
theorem ix_zero {n : Nat} (h : 0 < n) : ixN n 0 = some 0 := by
  unfold ixN
  simp
  omega
theorem at_k0 {xs : List V} {v : V} (h : xs[0]? = some v) : atI xs 0 = some v := atI_nat (j := 0) h
theorem at_k1 {xs : List V} {v : V} (h : xs[1]? = some v) : atI xs 1 = some v := atI_nat (j := 1) h
theorem at_k2 {xs : List V} {v : V} (h : xs[2]? = some v) : atI xs 2 = some v := atI_nat (j := 2) h
theorem at_k3 {xs : List V} {v : V} (h : xs[3]? = some v) : atI xs 3 = some v := atI_nat (j := 3) h
theorem at_k4 {xs : List V} {v : V} (h : xs[4]? = some v) : atI xs 4 = some v := atI_nat (j := 4) h
theorem at_k5 {xs : List V} {v : V} (h : xs[5]? = some v) : atI xs 5 = some v := atI_nat (j := 5) h
theorem at_k6 {xs : List V} {v : V} (h : xs[6]? = some v) : atI xs 6 = some v := atI_nat (j := 6) h
theorem at_k7 {xs : List V} {v : V} (h : xs[7]? = some v) : atI xs 7 = some v := atI_nat (j := 7) h
theorem ix_k0 {n : Nat} (h : 0 < n) : ixN n 0 = some 0 := by
  unfold ixN
  simp
  omega
theorem ix_k1 {n : Nat} (h : 1 < n) : ixN n 1 = some 1 := by
  unfold ixN
  simp
  omega
theorem ix_k2 {n : Nat} (h : 2 < n) : ixN n 2 = some 2 := by
  unfold ixN
  simp
  omega
theorem ix_k3 {n : Nat} (h : 3 < n) : ixN n 3 = some 3 := by
  unfold ixN
  simp
  omega
/-- one of a written list's items -/
theorem pick {xs : List V} {i : Int} (h0 : 0 ≤ i) (h : i < xs.length) : ∃ v, atI xs i = some v ∧ v ∈ xs := by
  have hj : i.toNat < xs.length := by omega
  have e : ((i.toNat : Nat) : Int) = i := by omega
  exact ⟨xs[i.toNat], by
    have h := atI_nat (List.getElem?_eq_getElem hj)
    rwa [e] at h, List.getElem_mem hj⟩
theorem g_pick2 {K : PySem.W.Frag} {H : Hp} {Q : VK} {p : Addr} {a b w : Int} (h : SqL K H p [.int a, .int b]) (h0 : 0 ≤ w) (h1 : w < 2) (q : ∀ v : Int, v = a ∨ v = b → Q (.int v) H) : rIxL K (.ref p) (.int w) H Q := by
  obtain ⟨v, hv, hm⟩ := pick (xs := [.int a, .int b]) h0 h1
  simp only [List.mem_cons, List.not_mem_nil, or_false] at hm
  rcases hm with rfl | rfl <;> exact ⟨p, _, w, _, rfl, rfl, h, hv, q _ (by simp)⟩
theorem g_pick3 {K : PySem.W.Frag} {H : Hp} {Q : VK} {p : Addr} {a b c w : Int} (h : SqL K H p [.int a, .int b, .int c]) (h0 : 0 ≤ w) (h1 : w < 3) (q : ∀ v : Int, v = a ∨ v = b ∨ v = c → Q (.int v) H) : rIxL K (.ref p) (.int w) H Q := by
  obtain ⟨v, hv, hm⟩ := pick (xs := [.int a, .int b, .int c]) h0 h1
  simp only [List.mem_cons, List.not_mem_nil, or_false] at hm
  rcases hm with rfl | rfl | rfl <;> exact ⟨p, _, w, _, rfl, rfl, h, hv, q _ (by simp)⟩
theorem g_pick4 {K : PySem.W.Frag} {H : Hp} {Q : VK} {p : Addr} {a b c d w : Int} (h : SqL K H p [.int a, .int b, .int c, .int d]) (h0 : 0 ≤ w) (h1 : w < 4) (q : ∀ v : Int, v = a ∨ v = b ∨ v = c ∨ v = d → Q (.int v) H) : rIxL K (.ref p) (.int w) H Q := by
  obtain ⟨v, hv, hm⟩ := pick (xs := [.int a, .int b, .int c, .int d]) h0 h1
  simp only [List.mem_cons, List.not_mem_nil, or_false] at hm
  rcases hm with rfl | rfl | rfl | rfl <;> exact ⟨p, _, w, _, rfl, rfl, h, hv, q _ (by simp)⟩
theorem g_pick5 {K : PySem.W.Frag} {H : Hp} {Q : VK} {p : Addr} {a b c d e w : Int} (h : SqL K H p [.int a, .int b, .int c, .int d, .int e]) (h0 : 0 ≤ w) (h1 : w < 5) (q : ∀ v : Int, v = a ∨ v = b ∨ v = c ∨ v = d ∨ v = e → Q (.int v) H) : rIxL K (.ref p) (.int w) H Q := by
  obtain ⟨v, hv, hm⟩ := pick (xs := [.int a, .int b, .int c, .int d, .int e]) h0 h1
  simp only [List.mem_cons, List.not_mem_nil, or_false] at hm
  rcases hm with rfl | rfl | rfl | rfl | rfl <;> exact ⟨p, _, w, _, rfl, rfl, h, hv, q _ (by simp)⟩
theorem g_pick6 {K : PySem.W.Frag} {H : Hp} {Q : VK} {p : Addr} {a b c d e f w : Int} (h : SqL K H p [.int a, .int b, .int c, .int d, .int e, .int f]) (h0 : 0 ≤ w) (h1 : w < 6) (q : ∀ v : Int, v = a ∨ v = b ∨ v = c ∨ v = d ∨ v = e ∨ v = f → Q (.int v) H) : rIxL K (.ref p) (.int w) H Q := by
  obtain ⟨v, hv, hm⟩ := pick (xs := [.int a, .int b, .int c, .int d, .int e, .int f]) h0 h1
  simp only [List.mem_cons, List.not_mem_nil, or_false] at hm
  rcases hm with rfl | rfl | rfl | rfl | rfl | rfl <;> exact ⟨p, _, w, _, rfl, rfl, h, hv, q _ (by simp)⟩
theorem g_pick7 {K : PySem.W.Frag} {H : Hp} {Q : VK} {p : Addr} {a b c d e f g w : Int} (h : SqL K H p [.int a, .int b, .int c, .int d, .int e, .int f, .int g]) (h0 : 0 ≤ w) (h1 : w < 7) (q : ∀ v : Int, v = a ∨ v = b ∨ v = c ∨ v = d ∨ v = e ∨ v = f ∨ v = g → Q (.int v) H) : rIxL K (.ref p) (.int w) H Q := by
  obtain ⟨v, hv, hm⟩ := pick (xs := [.int a, .int b, .int c, .int d, .int e, .int f, .int g]) h0 h1
  simp only [List.mem_cons, List.not_mem_nil, or_false] at hm
  rcases hm with rfl | rfl | rfl | rfl | rfl | rfl | rfl <;> exact ⟨p, _, w, _, rfl, rfl, h, hv, q _ (by simp)⟩
theorem g_pick8 {K : PySem.W.Frag} {H : Hp} {Q : VK} {p : Addr} {a b c d e f g k w : Int} (h : SqL K H p [.int a, .int b, .int c, .int d, .int e, .int f, .int g, .int k]) (h0 : 0 ≤ w) (h1 : w < 8) (q : ∀ v : Int, v = a ∨ v = b ∨ v = c ∨ v = d ∨ v = e ∨ v = f ∨ v = g ∨ v = k → Q (.int v) H) : rIxL K (.ref p) (.int w) H Q := by
  obtain ⟨v, hv, hm⟩ := pick (xs := [.int a, .int b, .int c, .int d, .int e, .int f, .int g, .int k]) h0 h1
  simp only [List.mem_cons, List.not_mem_nil, or_false] at hm
  rcases hm with rfl | rfl | rfl | rfl | rfl | rfl | rfl | rfl <;> exact ⟨p, _, w, _, rfl, rfl, h, hv, q _ (by simp)⟩
theorem g_pick9 {K : PySem.W.Frag} {H : Hp} {Q : VK} {p : Addr} {a b c d e f g k l w : Int} (h : SqL K H p [.int a, .int b, .int c, .int d, .int e, .int f, .int g, .int k, .int l]) (h0 : 0 ≤ w) (h1 : w < 9) (q : ∀ v : Int, v = a ∨ v = b ∨ v = c ∨ v = d ∨ v = e ∨ v = f ∨ v = g ∨ v = k ∨ v = l → Q (.int v) H) : rIxL K (.ref p) (.int w) H Q := by
  obtain ⟨v, hv, hm⟩ := pick (xs := [.int a, .int b, .int c, .int d, .int e, .int f, .int g, .int k, .int l]) h0 h1
  simp only [List.mem_cons, List.not_mem_nil, or_false] at hm
  rcases hm with rfl | rfl | rfl | rfl | rfl | rfl | rfl | rfl | rfl <;> exact ⟨p, _, w, _, rfl, rfl, h, hv, q _ (by simp)⟩
theorem g_pick {K : PySem.W.Frag} {H : Hp} {Q : VK} {p : Addr} {xs : List V} {w : Int} (h : SqL K H p xs) (h0 : 0 ≤ w) (h1 : w < xs.length) (q : ∀ v, v ∈ xs → Q v H) : rIxL K (.ref p) (.int w) H Q := by
  obtain ⟨v, hv, hm⟩ := pick (xs := xs) h0 h1
  exact ⟨p, _, w, _, rfl, rfl, h, hv, q _ hm⟩
theorem seq_zero {n : Nat} (h : 0 < n) : seqIndex? 0 n = some 0 := by
  unfold seqIndex?
  simp
  omega
theorem atI_ex {xs : List Int} {i : Int} (h0 : 0 ≤ i) (h : i < xs.length) : ∃ v, atI xs i = some v := by
  have hj : i.toNat < xs.length := by omega
  have e : ((i.toNat : Nat) : Int) = i := by omega
  exact ⟨xs[i.toNat], by
    have h := atI_nat (List.getElem?_eq_getElem hj)
    rwa [e] at h⟩
/-- what is behind an allocation, told by what it keeps -/
theorem new_of {H : Hp} {o : HO} {Q : VK} (h : ∀ p H', H p = none → Same H H' → H' p = some o → Q (.ref p) H') : ∀ p, H p = none → Q (.ref p) (upd H p o) := fun p hp => h p _ hp (same_new hp) upd_same
end Y
/-! YD: data (lists, tuples, numbers, truths, texts, None) and their ==. -/
namespace Y
open PySem PySem.Spec PyProof.Rows L2
mutual
theorem eqv_same : ∀ d : PyData, d.canLay0 = true → PyData.eqv d d = true
  | .none, _ => rfl
  | .bool b, _ => by simp [PyData.eqv]
  | .int i, _ => by simp [PyData.eqv]
  | .str x, _ => by simp [PyData.eqv]
  | .list xs, h => by rw [PyData.eqv]; exact eqv_sameAll xs (by simpa [PyData.canLay0] using h)
  | .tuple xs, h => by rw [PyData.eqv]; exact eqv_sameAll xs (by simpa [PyData.canLay0] using h)
  | .dict _, h => by simp [PyData.canLay0] at h
theorem eqv_sameAll : ∀ xs : List PyData, PyData.canLayAll0 xs = true → PyData.eqvAll xs xs = true
  | [], _ => rfl
  | x :: xs, h => by
    have h' : x.canLay0 = true ∧ PyData.canLayAll0 xs = true := by simpa [PyData.canLayAll0] using h
    rw [PyData.eqvAll, eqv_same x h'.1, eqv_sameAll xs h'.2]; rfl
end
theorem shaped_of {d : PyData} (h : d.canLay0 = true) (k : d.depth ≤ 64) : SeqAt.shaped d = true := by
  unfold SeqAt.shaped
  rw [h, decide_eq_true k]; rfl
theorem canLay_all {xs : List PyData} (h : ∀ x ∈ xs, x.canLay0 = true) : PyData.canLayAll0 xs = true := by
  induction xs with
  | nil => rfl
  | cons x r ih => rw [PyData.canLayAll0, h x (by simp), ih fun y hy => h y (by simp [hy])]; rfl
theorem depth_all {xs : List PyData} {n : Nat} (h : ∀ x ∈ xs, x.depth ≤ n) : PyData.depthAll xs ≤ n := by
  induction xs with
  | nil => exact Nat.zero_le _
  | cons x r ih =>
    rw [PyData.depthAll]
    exact Nat.max_le.mpr ⟨h x (by simp), ih fun y hy => h y (by simp [hy])⟩
/-- data that stand at most so deep -/
def Sh (n : Nat) (d : PyData) : Prop := d.canLay0 = true ∧ d.depth ≤ n
theorem Sh.ok {n : Nat} {d : PyData} (h : Sh n d) (k : n ≤ 64) : SeqAt.shaped d = true := shaped_of h.1 (Nat.le_trans h.2 k)
theorem sh_int (i : Int) (n : Nat) : Sh n (.int i) := ⟨by simp [PyData.canLay0], by simp [PyData.depth]⟩
theorem sh_bl (b : Bool) (n : Nat) : Sh n (.bool b) := ⟨by simp [PyData.canLay0], by simp [PyData.depth]⟩
theorem sh_non (n : Nat) : Sh n .none := ⟨by simp [PyData.canLay0], by simp [PyData.depth]⟩
theorem sh_str {x : Str} (h : PyData.strOk x = true) (n : Nat) : Sh n (.str x) := ⟨by simpa [PyData.canLay0] using h, by simp [PyData.depth]⟩
theorem sh_lst {n : Nat} {xs : List PyData} (h : ∀ x ∈ xs, Sh n x) : Sh (n + 1) (.list xs) :=
  ⟨by rw [PyData.canLay0]; exact canLay_all fun x hx => (h x hx).1, by rw [PyData.depth]; exact Nat.succ_le_succ (depth_all fun x hx => (h x hx).2)⟩
theorem sh_tup {n : Nat} {xs : List PyData} (h : ∀ x ∈ xs, Sh n x) : Sh (n + 1) (.tuple xs) :=
  ⟨by rw [PyData.canLay0]; exact canLay_all fun x hx => (h x hx).1, by rw [PyData.depth]; exact Nat.succ_le_succ (depth_all fun x hx => (h x hx).2)⟩
theorem Sh.mono {n m : Nat} {d : PyData} (h : Sh n d) (k : n ≤ m) : Sh m d := ⟨h.1, Nat.le_trans h.2 k⟩
/-! ### lists of whole numbers, of truths -/
theorem dp_ints {K : PySem.W.Frag} {H : Hp} : ∀ ns : List Int, DpAll K H (ns.map V.int) (ns.map PyData.int)
  | [] => .nil
  | n :: r => .cons (.int n) (dp_ints r)
theorem dp_bls {K : PySem.W.Frag} {H : Hp} : ∀ ns : List Bool, DpAll K H (ns.map V.bl) (ns.map PyData.bool)
  | [] => .nil
  | n :: r => .cons (.bl n) (dp_bls r)
theorem sh_ints (ns : List Int) (n : Nat) : Sh (n + 1) (.list (ns.map PyData.int)) := sh_lst fun x hx => by
  obtain ⟨i, _, rfl⟩ := List.mem_map.mp hx
  exact sh_int i n
theorem sh_bls (ns : List Bool) (n : Nat) : Sh (n + 1) (.list (ns.map PyData.bool)) := sh_lst fun x hx => by
  obtain ⟨i, _, rfl⟩ := List.mem_map.mp hx
  exact sh_bl i n
theorem eqv_ints : ∀ ns ms : List Int, PyData.eqvAll (ns.map PyData.int) (ms.map PyData.int) = decide (ns = ms)
  | [], [] => rfl
  | [], m :: ms => by simp [PyData.eqvAll]
  | n :: ns, [] => by simp [PyData.eqvAll]
  | n :: ns, m :: ms => by
    rw [List.map_cons, List.map_cons, PyData.eqvAll, eqv_ints ns ms, PyData.eqv]
    by_cases h : n = m <;> simp [h]
theorem eqv_bls : ∀ ns ms : List Bool, PyData.eqvAll (ns.map PyData.bool) (ms.map PyData.bool) = decide (ns = ms)
  | [], [] => rfl
  | [], m :: ms => by simp [PyData.eqvAll]
  | n :: ns, [] => by simp [PyData.eqvAll]
  | n :: ns, m :: ms => by
    rw [List.map_cons, List.map_cons, PyData.eqvAll, eqv_bls ns ms, PyData.eqv]
    by_cases h : n = m <;> simp [h]
section
variable {K : PySem.W.Frag} {H : Hp} {Q : VK} {p q : Addr} {ns ms : List Int} {x y : V} {d e : PyData} {n : Nat}
theorem g_eqD_ints (h : SqL K H p (ns.map V.int)) (h' : SqL K H q (ms.map V.int)) (k : Q (.bl (decide (ns = ms))) H) : rEqD K (.ref p) (.ref q) H Q :=
  ⟨_, _, .lst h (dp_ints ns), .lst h' (dp_ints ms), (sh_ints ns 0).ok (by decide), (sh_ints ms 0).ok (by decide), by rw [PyData.eqv, eqv_ints]; exact k⟩
theorem g_neD_ints (h : SqL K H p (ns.map V.int)) (h' : SqL K H q (ms.map V.int)) (k : Q (.bl (!decide (ns = ms))) H) : rNeD K (.ref p) (.ref q) H Q :=
  ⟨_, _, .lst h (dp_ints ns), .lst h' (dp_ints ms), (sh_ints ns 0).ok (by decide), (sh_ints ms 0).ok (by decide), by rw [PyData.eqv, eqv_ints]; exact k⟩
/-- alike data -/
theorem g_eqD_same (h : Dp K H x d) (h' : Dp K H y d) (s : Sh n d) (hn : n ≤ 64) (k : Q (.bl true) H) : rEqD K x y H Q :=
  ⟨d, d, h, h', s.ok hn, s.ok hn, by rw [eqv_same d s.1]; exact k⟩
theorem g_neD_same (h : Dp K H x d) (h' : Dp K H y d) (s : Sh n d) (hn : n ≤ 64) (k : Q (.bl false) H) : rNeD K x y H Q :=
  ⟨d, d, h, h', s.ok hn, s.ok hn, by rw [eqv_same d s.1]; exact k⟩
end
/-- the days from c to ahead of g -/
def days (c g : Int) : List Int := (List.range (g - c).toNat).map fun i : Nat => c + (i : Int)
theorem rgV_days (c g : Int) : rgV c g = (days c g).map V.int := by
  unfold rgV days
  rw [List.map_map]
  rfl
theorem days_len (c g : Int) : (days c g).length = (g - c).toNat := by unfold days; rw [List.length_map, List.length_range]
theorem days_get {c g : Int} {i : Nat} (h : (i : Int) < g - c) : (days c g)[i]? = some (c + (i : Int)) := by
  unfold days
  rw [List.getElem?_map, List.getElem?_range (by omega)]
  rfl
theorem days_at {c g i : Int} (h0 : 0 ≤ i) (h : i < g - c) : atI ((days c g).map V.int) i = some (.int (c + i)) := by
  have e : ((i.toNat : Nat) : Int) = i := by omega
  have h2 := atI_nat (xs := (days c g).map V.int) (j := i.toNat) (v := .int (c + i)) (by rw [List.getElem?_map, days_get (by omega), e]; rfl)
  rwa [e] at h2
end Y
/-! Y1: the law's tape and its draws. -/
namespace Y
open PySem PySem.Spec PyProof.Rows L2
/-! steps: a heap's facts (at), a list's or tuple's (sq), side questions (sd), one step (s1), many (ss) -/
local macro_rules | `(tactic| walk_at "tp") => `(tactic| first
  | assumption
  | ((with_reducible refine' Y.tape_new ?n0 ?n1); (case n0 => assumption); (case n1 => walk_at "tp"))
  | ((with_reducible refine' Y.tape_same ?n0 ?n1); (case n0 => assumption); (case n1 => walk_at "tp"))
  | ((with_reducible refine' Y.tape_own ?n0 ?n1 ?n2); (case n0 => assumption); (case n1 => walk_at "tp"); (case n2 => walk_at "tp")))
local macro_rules | `(tactic| walk_at "ni") => `(tactic| first
  | assumption
  | ((with_reducible refine' Y.ni_tape ?n0 ?n1); (case n0 => assumption); (case n1 => walk_at "tp")))
local macro_rules | `(tactic| walk_at "at0") => `(tactic| first
  | assumption
  | with_reducible exact upd_same
  | ((with_reducible refine' Y.at_new ?n0 ?n1); (case n0 => assumption); (case n1 => walk_at "at0"))
  | ((with_reducible refine' Y.get_same ?n0 ?n1); (case n0 => assumption); (case n1 => walk_at "at0"))
  | ((with_reducible refine' Y.get_kp ?n0 ?n1 ?n2); (case n0 => assumption); (case n1 => walk_at "at0"); (case n2 => walk_at "ni")))
local macro_rules | `(tactic| walk_at "ne") => `(tactic| first
  | assumption
  | exact Ne.symm (by assumption)
  | ((with_reducible refine' Y.ne_new ?n0 ?n1); (case n0 => assumption); (case n1 => walk_at "at0"))
  | ((with_reducible refine' Y.ne_new' ?n0 ?n1); (case n0 => assumption); (case n1 => walk_at "at0")))
local macro_rules | `(tactic| walk_at "sm") => `(tactic| first
  | assumption
  | with_reducible exact Same.refl _
  | ((with_reducible refine' Y.sm_new ?n0 ?n1); (case n0 => assumption); (case n1 => walk_at "sm"))
  | ((with_reducible refine' Y.sm_own ?n0 ?n1); (case n0 => assumption); (case n1 => walk_at "sm"))
  | ((with_reducible refine' Y.sm_tr ?n0 ?n1); (case n0 => assumption); (case n1 => walk_at "sm")))
local macro_rules | `(tactic| walk_at "fr") => `(tactic| first
  | assumption
  | ((with_reducible refine' Y.fr_of ?n0 ?n1); (case n0 => assumption); (case n1 => walk_at "sm")))
local macro_rules | `(tactic| walk_at "at") => `(tactic| first
  | assumption
  | with_reducible exact upd_same
  | ((with_reducible refine' Y.at_new ?n0 ?n1); (case n0 => assumption); (case n1 => walk_at "at"))
  | ((with_reducible refine' Y.at_ne ?n0 ?n1); (case n0 => walk_at "ne"); (case n1 => walk_at "at"))
  | ((with_reducible refine' Y.get_same ?n0 ?n1); (case n0 => assumption); (case n1 => walk_at "at"))
  | ((with_reducible refine' Y.get_kp ?n0 ?n1 ?n2); (case n0 => assumption); (case n1 => walk_at "at"); (case n2 => walk_at "ni")))
local macro_rules | `(tactic| walk_at "sq") => `(tactic| first
  | assumption
  | (refine' SqL.of ?n0; (case n0 => walk_at "at"))
  | (refine' SqT.of ?n0; (case n0 => walk_at "at"))
  | ((with_reducible refine' Y.sq_or ?n0); (case n0 => walk_at "at"))
  | ((with_reducible refine' Y.sq_orT ?n0); (case n0 => walk_at "at")))
local macro_rules | `(tactic| walk_at "dp") => `(tactic| first
  | assumption
  | exact Dp.int _
  | exact Dp.str _
  | exact Dp.bl _
  | exact Dp.non
  | (refine' Dp.tup ?s0 ?a0; (case s0 => walk_at "sq"); (case a0 => walk_at "dpa"))
  | (refine' Dp.lst ?s0 ?a0; (case s0 => walk_at "sq"); (case a0 => walk_at "dpa")))
local macro_rules | `(tactic| walk_at "dpa") => `(tactic| first
  | exact DpAll.nil
  | exact Y.dp_ints _
  | (refine' DpAll.cons ?a0 ?b0; (case a0 => walk_at "dp"); (case b0 => walk_at "dpa")))
local macro_rules | `(tactic| walk_at "sh") => `(tactic| first
  | assumption
  | exact ⟨by simp [PyData.canLay0, PyData.canLayAll0], by simp [PyData.depth, PyData.depthAll]⟩)
local macro_rules | `(tactic| walk_at "sd") => `(tactic| ((try dsimp only); first
  | assumption
  | omega
  | exact rfl
  | decide
  | exact Or.inl ⟨by omega, by omega⟩
  | exact Or.inr ⟨by omega, by omega⟩
  | exact ⟨by first | assumption | omega | decide, by first | assumption | omega | decide⟩
  | exact ⟨by decide, by decide, by decide⟩
  | (simp only [List.length_map, List.length_append, List.length_cons, List.length_nil, List.length_singleton, sizeLine_eq]; omega)))
local macro_rules | `(tactic| walk_at "rf") => `(tactic| exact rfl)
local macro_rules | `(tactic| walk_at "ai") => `(tactic| first
  | assumption
  | ((with_reducible refine' Y.at_k0 ?r); (case r => exact rfl))
  | ((with_reducible refine' Y.at_k1 ?r); (case r => exact rfl))
  | ((with_reducible refine' Y.at_k2 ?r); (case r => exact rfl))
  | ((with_reducible refine' Y.at_k3 ?r); (case r => exact rfl))
  | ((with_reducible refine' Y.at_k4 ?r); (case r => exact rfl))
  | ((with_reducible refine' Y.at_k5 ?r); (case r => exact rfl))
  | ((with_reducible refine' Y.at_k6 ?r); (case r => exact rfl))
  | ((with_reducible refine' Y.at_k7 ?r); (case r => exact rfl))
  | ((with_reducible refine' Y.atI_map ?r); (case r => assumption))
  | ((with_reducible refine' Y.ix_k0 ?r); (case r => walk_at "sd"))
  | ((with_reducible refine' Y.ix_k1 ?r); (case r => walk_at "sd"))
  | ((with_reducible refine' Y.ix_k2 ?r); (case r => walk_at "sd"))
  | ((with_reducible refine' Y.ix_k3 ?r); (case r => walk_at "sd"))
  | ((with_reducible refine' Y.ix_zero ?r); (case r => simp)))
local macro_rules | `(tactic| walk_at "isi") => `(tactic| first
  | (with_reducible refine Y.g_isi_int_int ?_)
  | (with_reducible refine Y.g_isi_int_bool ?_)
  | (with_reducible refine Y.g_isi_int_str ?_)
  | (with_reducible refine Y.g_isi_int_list ?_)
  | (with_reducible refine Y.g_isi_int_tuple ?_)
  | (with_reducible refine Y.g_isi_bl_int ?_)
  | (with_reducible refine Y.g_isi_bl_bool ?_)
  | (with_reducible refine Y.g_isi_bl_str ?_)
  | (with_reducible refine Y.g_isi_bl_list ?_)
  | (with_reducible refine Y.g_isi_bl_tuple ?_)
  | (with_reducible refine Y.g_isi_str_int ?_)
  | (with_reducible refine Y.g_isi_str_bool ?_)
  | (with_reducible refine Y.g_isi_str_str ?_)
  | (with_reducible refine Y.g_isi_str_list ?_)
  | (with_reducible refine Y.g_isi_str_tuple ?_)
  | (with_reducible refine Y.g_isi_non_int ?_)
  | (with_reducible refine Y.g_isi_non_bool ?_)
  | (with_reducible refine Y.g_isi_non_str ?_)
  | (with_reducible refine Y.g_isi_non_list ?_)
  | (with_reducible refine Y.g_isi_non_tuple ?_)
  | ((with_reducible refine' Y.g_isi_lst_int ?h ?_); (case h => walk_at "at"))
  | ((with_reducible refine' Y.g_isi_lst_bool ?h ?_); (case h => walk_at "at"))
  | ((with_reducible refine' Y.g_isi_lst_str ?h ?_); (case h => walk_at "at"))
  | ((with_reducible refine' Y.g_isi_lst_list ?h ?_); (case h => walk_at "at"))
  | ((with_reducible refine' Y.g_isi_lst_tuple ?h ?_); (case h => walk_at "at"))
  | ((with_reducible refine' Y.g_isi_tup_int ?h ?_); (case h => walk_at "at"))
  | ((with_reducible refine' Y.g_isi_tup_bool ?h ?_); (case h => walk_at "at"))
  | ((with_reducible refine' Y.g_isi_tup_str ?h ?_); (case h => walk_at "at"))
  | ((with_reducible refine' Y.g_isi_tup_list ?h ?_); (case h => walk_at "at"))
  | ((with_reducible refine' Y.g_isi_tup_tuple ?h ?_); (case h => walk_at "at")))
local macro_rules | `(tactic| walk_at "s1") => `(tactic| first
  | ((with_reducible refine' Y.g_var ?h ?_); (case h => exact rfl))
  | (with_reducible refine Y.g_c ?_)
  | (with_reducible refine Y.g_op ?_)
  | (with_reducible refine Y.g_cons ?_)
  | (with_reducible refine Y.g_nil ?_)
  | (with_reducible refine Y.g_test ?_)
  | (with_reducible refine Y.g_cb ?_)
  | (with_reducible refine Y.g_seq ?_)
  | (with_reducible refine Y.g_asg ?_)
  | (with_reducible refine Y.g_name ?_)
  | (with_reducible refine Y.g_ifS ?_)
  | (with_reducible refine Y.g_pow6 ?_)
  | (with_reducible refine Y.g_pow9 ?_)
  | (with_reducible refine Y.g_pow12 ?_)
  | (with_reducible refine Y.g_pow18 ?_)
  | (with_reducible refine Y.g_pow60 ?_)
  | ((with_reducible refine Y.g_rI ?c ?_); (case c => walk_at "sd"))
  | ((with_reducible refine Y.g_eq ?c ?_); (case c => walk_at "rf"))
  | ((with_reducible refine Y.g_ne ?c ?_); (case c => walk_at "rf"))
  | ((with_reducible refine' Y.g_ixL ?h ?a ?_); (case h => walk_at "sq"); (case a => walk_at "ai"))
  | ((with_reducible refine' Y.g_pick2 ?h ?a ?b fun v hv => ?_); (case h => walk_at "sq"); (case a => assumption); (case b => assumption))
  | ((with_reducible refine' Y.g_pick3 ?h ?a ?b fun v hv => ?_); (case h => walk_at "sq"); (case a => assumption); (case b => assumption))
  | ((with_reducible refine' Y.g_pick4 ?h ?a ?b fun v hv => ?_); (case h => walk_at "sq"); (case a => assumption); (case b => assumption))
  | ((with_reducible refine' Y.g_pick5 ?h ?a ?b fun v hv => ?_); (case h => walk_at "sq"); (case a => assumption); (case b => assumption))
  | ((with_reducible refine' Y.g_pick6 ?h ?a ?b fun v hv => ?_); (case h => walk_at "sq"); (case a => assumption); (case b => assumption))
  | ((with_reducible refine' Y.g_pick7 ?h ?a ?b fun v hv => ?_); (case h => walk_at "sq"); (case a => assumption); (case b => assumption))
  | ((with_reducible refine' Y.g_pick8 ?h ?a ?b fun v hv => ?_); (case h => walk_at "sq"); (case a => assumption); (case b => assumption))
  | ((with_reducible refine' Y.g_pick9 ?h ?a ?b fun v hv => ?_); (case h => walk_at "sq"); (case a => assumption); (case b => assumption))
  | ((with_reducible refine' Y.g_ixT ?h ?a ?_); (case h => walk_at "sq"); (case a => walk_at "ai"))
  | ((with_reducible refine' Y.g_setL ?h ?a ?_); (case h => walk_at "at"); (case a => walk_at "ai"))
  | ((with_reducible refine' Y.g_len ?h ?_); (case h => walk_at "sq"))
  | (with_reducible refine Y.g_call ?_)
  | (with_reducible refine Y.g_tB ?_)
  | (with_reducible refine Y.g_un ?_)
  | (with_reducible refine Y.g_if ?_)
  | (with_reducible refine Y.g_and ?_)
  | (with_reducible refine Y.g_or ?_)
  | (with_reducible refine Y.g_not ?_)
  | (with_reducible refine Y.g_tTup ?_)
  | (with_reducible refine Y.g_tLst ?_)
  | (with_reducible refine Y.g_sl ?_)
  | (with_reducible refine Y.g_pt ?_)
  | (with_reducible refine Y.g_np ?_)
  | (with_reducible refine Y.g_bm ?_)
  | (with_reducible refine Y.g_bm0 ?_)
  | (with_reducible refine Y.g_andV ?_)
  | (with_reducible refine Y.g_orV ?_)
  | (with_reducible refine Y.g_notV ?_)
  | (with_reducible refine Y.g_chain ?_)
  | (with_reducible refine Y.g_ret ?_)
  | (with_reducible refine Y.g_drop ?_)
  | (with_reducible refine Y.g_next ?_)
  | (with_reducible refine Y.g_sub ?_)
  | (with_reducible refine Y.g_gcons ?_)
  | (with_reducible refine Y.g_gnil ?_)
  | (with_reducible refine Y.g_par ?_)
  | (with_reducible refine Y.g_yes ?_)
  | (with_reducible refine Y.g_truth ?_)
  | (with_reducible refine Y.g_lstRg ?_)
  | (with_reducible refine Y.g_rg2 ?_)
  | (with_reducible refine Y.g_rg1 ?_)
  | (with_reducible refine Y.g_exII ?_)
  | (with_reducible refine Y.g_exI ?_)
  | (with_reducible refine Y.g_rng1 ?_)
  | (with_reducible refine Y.g_rng2 ?_)
  | (with_reducible refine Y.g_iList ?_)
  | (with_reducible refine Y.g_iTup ?_)
  | (with_reducible refine Y.g_for ?_)
  | (with_reducible refine Y.g_lc ?_)
  | (with_reducible refine Y.g_rI0 ?_)
  | (with_reducible refine Y.g_isN ?_)
  | (with_reducible refine Y.g_notN ?_)
  | (with_reducible refine Y.g_abs ?_)
  | (with_reducible refine Y.g_max2 ?_)
  | (with_reducible refine Y.g_min2 ?_)
  | (with_reducible refine Y.g_bl ?_)
  | ((with_reducible refine' Y.g_slL ?h fun p hp => ?_); (case h => walk_at "sq"))
  | ((with_reducible refine' Y.g_listOf ?h fun p hp => ?_); (case h => walk_at "sq"))
  | ((with_reducible refine' Y.g_append ?h ?z ?_); (case h => walk_at "at"); (case z => walk_at "sd"))
  | ((with_reducible refine Y.g_sz ?z fun p hp => ?_); (case z => walk_at "sd"))
  | ((with_reducible refine' Y.g_gtup ?h ?l ?_); (case h => walk_at "sq"); (case l => walk_at "rf"))
  | ((with_reducible refine' Y.g_tyL ?h ?_); (case h => walk_at "sq"))
  | ((with_reducible refine Y.g_rng1b ?a ?b ?_); (case a => walk_at "sd"); (case b => walk_at "sd"))
  | ((with_reducible refine Y.g_rng2b ?a ?_); (case a => walk_at "sd"))
  | ((with_reducible refine' Y.g_iListb ?h ?_); (case h => walk_at "sq"))
  | ((with_reducible refine' Y.g_iTupb ?h ?_); (case h => walk_at "sq"))
  | ((with_reducible refine' Y.g_draw ?T ?c0 ?c9 fun v H' h0 h1 T' k' => ?_); (case T => walk_at "tp"); (case c0 => walk_at "sd"); (case c9 => walk_at "sd"))
  | walk_at "isi"
  | ((with_reducible refine' Y.g_nights ?h ?b fun p H' hs hp he => ?_); (case h => walk_at "sq"); (case b => exact ⟨by omega, by omega, by omega, by omega⟩))
  | ((with_reducible refine Y.g_wipe ?h ?_); (case h => exact rfl))
  | (with_reducible refine iteT ?_)
  | (with_reducible refine iteF ?_)
  | (with_reducible refine Y.ite_nt ?_)
  | (with_reducible refine Y.ite_nf ?_))
local macro_rules | `(tactic| walk_at "ss") => `(tactic| repeat walk_at "s1")
/-- a tape at t: its great cells at b, all cells at s, how many were drawn -/
def Tape (H : Hp) (t b s : Addr) : Prop := t ≠ b ∧ t ≠ s ∧ b ≠ s ∧ ∃ (A S : List Int) (n : Int),
  H t = some (.lst [.ref b, .ref s, .int n]) ∧ H b = some (.lst (A.map V.int)) ∧ H s = some (.lst (S.map V.int))
def sp_Ldraw (K : PySem.W.Frag) : Sp := Sp2 fun x y H Q E => ∃ (t b s : Addr) (m : Int), x = .ref t ∧ y = .int m ∧ Tape H t b s ∧ 0 < m ∧ m.natAbs.log2 < 9000 ∧
  ∀ (v : Int) (H' : Hp), 0 ≤ v → v < m → Tape H' t b s → Kp [t, b] H H' → Q (.int v) H'
def sp_Ltape (K : PySem.W.Frag) : Sp := Sp1 fun x H Q E => ∃ (a : Addr) (ns : List Int), x = .ref a ∧ SqL K H a (ns.map V.int) ∧ ns.length ≤ 63 ∧
  ∀ (t b s : Addr) (H' : Hp), Same H H' → H t = none → H b = none → H s = none → Tape H' t b s → Q (.ref t) H'
theorem log9 {m : Int} (h0 : 0 < m) (h : m < 2 ^ 250) : m.natAbs.log2 < 9000 :=
  Nat.lt_trans (PySem.Flt.log2_lt_of (k := 250) (by decide) (by
    have e : (m.natAbs : Int) = m := by omega
    have h2 : (m.natAbs : Int) < ((2 ^ 250 : Nat) : Int) := by rw [e]; exact h
    exact Int.ofNat_lt.mp h2)) (by decide)
theorem g_draw {K : PySem.W.Frag} {t b s : Addr} {m : Int} {H : Hp} {Q : VK} {E : XK} (T : Tape H t b s) (h0 : 0 < m) (h9 : m < 2 ^ 250) (q : ∀ (v : Int) (H' : Hp), 0 ≤ v → v < m → Tape H' t b s → Kp [t, b] H H' → Q (.int v) H') : sp_Ldraw K ([.ref t, .int m] ++ []) H Q E :=
  ⟨_, _, rfl, t, b, s, m, rfl, rfl, T, h0, log9 h0 h9, q⟩
theorem ni_tape {H : Hp} {t b s p : Addr} (hp : H p = none) (T : Tape H t b s) : p ∉ [t, b] := by
  obtain ⟨_, _, _, A, S, n, h1, h2, h3⟩ := T
  intro h
  rcases List.mem_cons.mp h with e | h
  · rw [e, h1] at hp; cases hp
  · rw [List.mem_singleton.mp h, h2] at hp; cases hp
theorem tape_same {H H' : Hp} {t b s : Addr} (e : Same H H') (T : Tape H t b s) : Tape H' t b s := by
  obtain ⟨n1, n2, n3, A, S, n, h1, h2, h3⟩ := T
  exact ⟨n1, n2, n3, A, S, n, e _ _ h1, e _ _ h2, e _ _ h3⟩
theorem tape_new {H : Hp} {t b s p : Addr} {o : HO} (hp : H p = none) (T : Tape H t b s) : Tape (upd H p o) t b s := tape_same (same_new hp) T
theorem tape_own {H H0 : Hp} {t b s p : Addr} {o : HO} (hp : H0 p = none) (T0 : Tape H0 t b s) (T : Tape H t b s) : Tape (upd H p o) t b s := by
  obtain ⟨n1, n2, n3, A, S, n, h1, h2, h3⟩ := T
  obtain ⟨_, _, _, A', S', n', k1, k2, k3⟩ := T0
  exact ⟨n1, n2, n3, A, S, n, at_ne (ne_of_none k1 hp) h1, at_ne (ne_of_none k2 hp) h2, at_ne (ne_of_none k3 hp) h3⟩
def t_Ldraw (K : PySem.W.Frag) : TS :=
  (tSeq (tAsg (tOp rAdd (tOp (rIxL K) (tVar 0) (tC (.int 2))) (tC (.int 1))) (gSub (tVar 0) (tC (.int 2)) rSetL))
  (tSeq (tWhile (tAnd (tTest (tOp rGt (tCB (rLen K) (tCons (tOp (rIxL K) (tVar 0) (tC (.int 0))) tNil)) (tC (.int 0)))) (tTest (tOp rEq (tOp (rIxL K) (tOp (rIxL K) (tVar 0) (tC (.int 0))) (tC (.int 0))) (tC (.int 0)))))
  (tDrop (tBM K "list" rPopAt (tOp (rIxL K) (tVar 0) (tC (.int 0))) (tCons (tC (.int 0)) tNil))))
  (tSeq (tIfS (tTest (tOp rGt (tCB (rLen K) (tCons (tOp (rIxL K) (tVar 0) (tC (.int 0))) tNil)) (tC (.int 0))))
  (tSeq (tAsg (tOp rMod (tOp (rIxL K) (tOp (rIxL K) (tVar 0) (tC (.int 0))) (tC (.int 0))) (tVar 1)) (gName 2))
  (tSeq (tAsg (tOp rDivW (tOp (rIxL K) (tOp (rIxL K) (tVar 0) (tC (.int 0))) (tC (.int 0))) (tVar 1)) (gSub (tOp (rIxL K) (tVar 0) (tC (.int 0))) (tC (.int 0)) rSetL))
  (tRet (tVar 2))))
  tNext)
  (tSeq (tAsg (tC (.int 5)) (gName 3))
  (tSeq (tIfS (tTest (tOp rGt (tCB (rLen K) (tCons (tOp (rIxL K) (tVar 0) (tC (.int 1))) tNil)) (tC (.int 0))))
  (tAsg (tOp (rIxL K) (tOp (rIxL K) (tVar 0) (tC (.int 1))) (tOp rMod (tOp (rIxL K) (tVar 0) (tC (.int 2))) (tCB (rLen K) (tCons (tOp (rIxL K) (tVar 0) (tC (.int 1))) tNil)))) (gName 3))
  tNext)
  (tSeq (tAsg (tOp rMod (tOp rMul (tOp rAdd (tOp rAdd (tOp rMod (tVar 3) (tC (.int 999983))) (tOp rMul (tC (.int 7919)) (tOp (rIxL K) (tVar 0) (tC (.int 2))))) (tC (.int 1))) (tC (.int 48271))) (tC (.int 2147483647))) (gName 4))
  (tSeq (tAsg (tOp rMod (tOp rAdd (tOp rAdd (tOp rMul (tVar 4) (tVar 4)) (tOp rMul (tC (.int 69621)) (tOp (rIxL K) (tVar 0) (tC (.int 2))))) (tC (.int 11))) (tC (.int 2147483629))) (gName 4))
  (tRet (tOp rMod (tOp rDivW (tOp rMod (tOp rMul (tOp rDivW (tVar 4) (tC (.int 64))) (tC (.int 40503))) (tC (.int 2147483587))) (tC (.int 32))) (tVar 1))))))))))
theorem pure_Ldraw {K : PySem.W.Frag} {x y : V} {H : Hp} {Q : VK} {E : XK} (h : sp_Ldraw K [x, y] H Q E) : t_Ldraw K { nx := fun _ H' => Q .non H', rt := Q } [some x, some y, none, none, none] H := by
  obtain ⟨x, y, e, t, b, s, m, rfl, rfl, ⟨ntb, nts, nbs, A, S, n, ht, hb, hs⟩, hm0, hm9, q⟩ := h
  cases e
  unfold t_Ldraw
  walk_at "ss"
  refine ⟨fun k σ' H' => σ' = [some (.ref t), some (.int m), none, none, none] ∧ Kp [t, b] H H' ∧ ∃ A' : List Int, A'.length = k ∧ H' t = some (.lst [.ref b, .ref s, .int (n + 1)]) ∧ H' b = some (.lst (A'.map V.int)) ∧ H' s = some (.lst (S.map V.int)),
    ⟨_, rfl, kp_upd (by simp), A, rfl, upd_same, by rw [upd_ne ntb.symm]; exact hb, by rw [upd_ne nts.symm]; exact hs⟩, ?_⟩
  rintro k σ' H' ⟨rfl, kp, A', rfl, ht', hb', hs'⟩
  clear ht hb hs
  walk_at "ss"
  cases A' with
  | nil =>
    refine ite_df (by simp) ?_
    refine iteF ?_
    have T : Tape H' t b s := ⟨ntb, nts, nbs, [], S, _, ht', hb', hs'⟩
    walk_at "ss"
    refine ite_df (by simp) ?_
    walk_at "ss"
    cases S with
    | nil =>
      refine ite_df (by simp) ?_
      walk_at "ss"
      exact q _ _ (Int.emod_nonneg _ (by omega)) (Int.emod_lt_of_pos _ hm0) T kp
    | cons c S =>
      refine ite_dt (by rw [List.length_map, List.length_cons]; omega) ?_
      obtain ⟨v, hv⟩ := atI_ex (xs := c :: S) (i := (n + 1) % ((((c :: S).map V.int).length : Nat) : Int)) (Int.emod_nonneg _ (by rw [List.length_map, List.length_cons]; omega))
        (Int.lt_of_lt_of_le (Int.emod_lt_of_pos _ (by rw [List.length_map, List.length_cons]; omega)) (by rw [List.length_map]; omega))
      walk_at "ss"
      exact q _ _ (Int.emod_nonneg _ (by omega)) (Int.emod_lt_of_pos _ hm0) T kp
  | cons z r =>
    refine ite_dt (by rw [List.length_map, List.length_cons]; omega) ?_
    walk_at "ss"
    rw [int_eq]
    refine ite_d (fun hz => ?_) fun hz => ?_
    · -- a great cell that is none any more
      walk_at "ss"
      refine ⟨fun σ2 H2 => σ2 = [some (.ref t), some (.int m), none, none, none] ∧ Kp [t, b] H H2 ∧ H2 t = some (.lst [.ref b, .ref s, .int (n + 1)]) ∧ H2 b = some (.lst (r.map V.int)) ∧ H2 s = some (.lst (S.map V.int)),
        fun σ2 H2 ⟨e, k2, a1, a2, a3⟩ => ⟨r.length, by simp, e, k2, r, rfl, a1, a2, a3⟩, ?_⟩
      walk_at "ss"
      refine g_popAt (n := 0) hb' (by decide) (by decide) (seq_zero (by simp)) rfl ?_
      exact ⟨rfl, kp.put (by simp), at_ne ntb ht', upd_same, at_ne nbs.symm hs'⟩
    · walk_at "ss"
      refine ite_dt (by rw [List.length_map, List.length_cons]; omega) ?_
      walk_at "ss"
      exact q _ _ (Int.emod_nonneg _ (by omega)) (Int.emod_lt_of_pos _ hm0) ⟨ntb, nts, nbs, (z / m) :: r, S, _, at_ne ntb ht', upd_same, at_ne nbs.symm hs'⟩ (kp.put (by simp))
def t_Ltape (K : PySem.W.Frag) : TS :=
  (tRet (tLst (tCons (tLc (iList K (tSl (rSlL K) (tVar 0) tNoPart (tPart (tC (.int 63))))) (gName 1) (tTest (tOp rGe (tCB rAbs (tCons (tVar 1) tNil)) (tOp rPow (tC (.int 10)) (tC (.int 18))))) (tCB rAbs (tCons (tVar 1) tNil)) [1]) (tCons (tCB (rListOf K) (tCons (tSl (rSlL K) (tVar 0) tNoPart (tPart (tC (.int 63)))) tNil)) (tCons (tC (.int 0)) tNil)))))
theorem pure_Ltape {K : PySem.W.Frag} {x : V} {H : Hp} {Q : VK} {E : XK} (h : sp_Ltape K [x] H Q E) : t_Ltape K { nx := fun _ H' => Q .non H', rt := Q } [some x, none] H := by
  obtain ⟨x, e, a, ns, rfl, hS, hl, q⟩ := h
  cases e
  unfold t_Ltape
  walk_at "ss"
  rename_i p hp
  intro D hD
  have e63 : cutV (ns.map V.int) none (some 63) = ns.map V.int := by
    rw [cut_to (by decide), List.take_of_length_le (by rw [List.length_map]; exact hl)]
  rw [e63] at hD ⊢
  refine lc_list (K := K) (a := p) (xs := ns.map V.int) (fun i H' => Same H H' ∧ H' p = some (.lst (ns.map V.int)) ∧ ∃ A : List Int, A.length ≤ i ∧ H' D = some (.lst (A.map V.int)))
    ⟨(same_new hp).trans (same_new hD), at_new hD upd_same, [], Nat.le_refl _, upd_same⟩ (fun i H' _ h => SqL.of h.2.1) ?_ ?_
  · rintro i y H' hi ⟨s1, s2, A, hA, s3⟩
    obtain ⟨z, rfl, hz⟩ := map_get hi
    have hi63 : i < 63 := Nat.lt_of_lt_of_le (List.getElem?_eq_some_iff.mp hz).1 hl
    walk_at "ss"
    refine ite_d (fun _ => ?_) fun _ => ⟨s1, s2, A, Nat.le_succ_of_le hA, s3⟩
    walk_at "ss"
    have nDp : p ≠ D := fun e => by rw [← e, upd_same] at hD; cases hD
    have hD0 : H D = none := (same_new hp).free hD
    refine ⟨A.map V.int, s3, by rw [List.length_map, sizeLine_eq]; omega, fun b o e => at_ne (ne_of_none e hD0) (s1 b o e), at_ne nDp s2, A ++ [if z < 0 then -z else z], by simp; omega, ?_⟩
    rw [upd_same, List.map_append]
    rfl
  · rintro H' ⟨s1, s2, A, hA, s3⟩
    have hS' := s1.seq hS
    have hD0 : H D = none := (same_new hp).free hD
    walk_at "ss"
    rename_i p1 hp1 p2 hp2 p3 hp3
    rw [e63] at hp2 hp3 ⊢
    exact q p3 D p2 _ (by walk_at "sm") (by walk_at "fr") hD0 (by walk_at "fr") ⟨by walk_at "ne", by walk_at "ne", by walk_at "ne", A, ns, 0, upd_same, by walk_at "at", by walk_at "at"⟩
end Y
/-! Y2: days, stays, nights. -/
namespace Y
open PySem PySem.Spec PyProof.Rows L2
/-! steps: a heap's facts (at), a list's or tuple's (sq), side questions (sd), one step (s1), many (ss) -/
local macro_rules | `(tactic| walk_at "tp") => `(tactic| first
  | assumption
  | ((with_reducible refine' Y.tape_new ?n0 ?n1); (case n0 => assumption); (case n1 => walk_at "tp"))
  | ((with_reducible refine' Y.tape_same ?n0 ?n1); (case n0 => assumption); (case n1 => walk_at "tp"))
  | ((with_reducible refine' Y.tape_own ?n0 ?n1 ?n2); (case n0 => assumption); (case n1 => walk_at "tp"); (case n2 => walk_at "tp")))
local macro_rules | `(tactic| walk_at "ni") => `(tactic| first
  | assumption
  | ((with_reducible refine' Y.ni_tape ?n0 ?n1); (case n0 => assumption); (case n1 => walk_at "tp")))
local macro_rules | `(tactic| walk_at "at0") => `(tactic| first
  | assumption
  | with_reducible exact upd_same
  | ((with_reducible refine' Y.at_new ?n0 ?n1); (case n0 => assumption); (case n1 => walk_at "at0"))
  | ((with_reducible refine' Y.get_same ?n0 ?n1); (case n0 => assumption); (case n1 => walk_at "at0"))
  | ((with_reducible refine' Y.get_kp ?n0 ?n1 ?n2); (case n0 => assumption); (case n1 => walk_at "at0"); (case n2 => walk_at "ni")))
local macro_rules | `(tactic| walk_at "ne") => `(tactic| first
  | assumption
  | exact Ne.symm (by assumption)
  | ((with_reducible refine' Y.ne_new ?n0 ?n1); (case n0 => assumption); (case n1 => walk_at "at0"))
  | ((with_reducible refine' Y.ne_new' ?n0 ?n1); (case n0 => assumption); (case n1 => walk_at "at0")))
local macro_rules | `(tactic| walk_at "sm") => `(tactic| first
  | assumption
  | with_reducible exact Same.refl _
  | ((with_reducible refine' Y.sm_new ?n0 ?n1); (case n0 => assumption); (case n1 => walk_at "sm"))
  | ((with_reducible refine' Y.sm_own ?n0 ?n1); (case n0 => assumption); (case n1 => walk_at "sm"))
  | ((with_reducible refine' Y.sm_tr ?n0 ?n1); (case n0 => assumption); (case n1 => walk_at "sm")))
local macro_rules | `(tactic| walk_at "fr") => `(tactic| first
  | assumption
  | ((with_reducible refine' Y.fr_of ?n0 ?n1); (case n0 => assumption); (case n1 => walk_at "sm")))
local macro_rules | `(tactic| walk_at "at") => `(tactic| first
  | assumption
  | with_reducible exact upd_same
  | ((with_reducible refine' Y.at_new ?n0 ?n1); (case n0 => assumption); (case n1 => walk_at "at"))
  | ((with_reducible refine' Y.at_ne ?n0 ?n1); (case n0 => walk_at "ne"); (case n1 => walk_at "at"))
  | ((with_reducible refine' Y.get_same ?n0 ?n1); (case n0 => assumption); (case n1 => walk_at "at"))
  | ((with_reducible refine' Y.get_kp ?n0 ?n1 ?n2); (case n0 => assumption); (case n1 => walk_at "at"); (case n2 => walk_at "ni")))
local macro_rules | `(tactic| walk_at "sq") => `(tactic| first
  | assumption
  | (refine' SqL.of ?n0; (case n0 => walk_at "at"))
  | (refine' SqT.of ?n0; (case n0 => walk_at "at"))
  | ((with_reducible refine' Y.sq_or ?n0); (case n0 => walk_at "at"))
  | ((with_reducible refine' Y.sq_orT ?n0); (case n0 => walk_at "at")))
local macro_rules | `(tactic| walk_at "dp") => `(tactic| first
  | assumption
  | exact Dp.int _
  | exact Dp.str _
  | exact Dp.bl _
  | exact Dp.non
  | (refine' Dp.tup ?s0 ?a0; (case s0 => walk_at "sq"); (case a0 => walk_at "dpa"))
  | (refine' Dp.lst ?s0 ?a0; (case s0 => walk_at "sq"); (case a0 => walk_at "dpa")))
local macro_rules | `(tactic| walk_at "dpa") => `(tactic| first
  | exact DpAll.nil
  | exact Y.dp_ints _
  | (refine' DpAll.cons ?a0 ?b0; (case a0 => walk_at "dp"); (case b0 => walk_at "dpa")))
local macro_rules | `(tactic| walk_at "sh") => `(tactic| first
  | assumption
  | exact ⟨by simp [PyData.canLay0, PyData.canLayAll0], by simp [PyData.depth, PyData.depthAll]⟩)
local macro_rules | `(tactic| walk_at "sd") => `(tactic| ((try dsimp only); first
  | assumption
  | omega
  | exact rfl
  | decide
  | exact Or.inl ⟨by omega, by omega⟩
  | exact Or.inr ⟨by omega, by omega⟩
  | exact ⟨by first | assumption | omega | decide, by first | assumption | omega | decide⟩
  | exact ⟨by decide, by decide, by decide⟩
  | (simp only [List.length_map, List.length_append, List.length_cons, List.length_nil, List.length_singleton, sizeLine_eq]; omega)))
local macro_rules | `(tactic| walk_at "rf") => `(tactic| exact rfl)
local macro_rules | `(tactic| walk_at "ai") => `(tactic| first
  | assumption
  | ((with_reducible refine' Y.at_k0 ?r); (case r => exact rfl))
  | ((with_reducible refine' Y.at_k1 ?r); (case r => exact rfl))
  | ((with_reducible refine' Y.at_k2 ?r); (case r => exact rfl))
  | ((with_reducible refine' Y.at_k3 ?r); (case r => exact rfl))
  | ((with_reducible refine' Y.at_k4 ?r); (case r => exact rfl))
  | ((with_reducible refine' Y.at_k5 ?r); (case r => exact rfl))
  | ((with_reducible refine' Y.at_k6 ?r); (case r => exact rfl))
  | ((with_reducible refine' Y.at_k7 ?r); (case r => exact rfl))
  | ((with_reducible refine' Y.atI_map ?r); (case r => assumption))
  | ((with_reducible refine' Y.ix_k0 ?r); (case r => walk_at "sd"))
  | ((with_reducible refine' Y.ix_k1 ?r); (case r => walk_at "sd"))
  | ((with_reducible refine' Y.ix_k2 ?r); (case r => walk_at "sd"))
  | ((with_reducible refine' Y.ix_k3 ?r); (case r => walk_at "sd"))
  | ((with_reducible refine' Y.ix_zero ?r); (case r => simp)))
local macro_rules | `(tactic| walk_at "isi") => `(tactic| first
  | (with_reducible refine Y.g_isi_int_int ?_)
  | (with_reducible refine Y.g_isi_int_bool ?_)
  | (with_reducible refine Y.g_isi_int_str ?_)
  | (with_reducible refine Y.g_isi_int_list ?_)
  | (with_reducible refine Y.g_isi_int_tuple ?_)
  | (with_reducible refine Y.g_isi_bl_int ?_)
  | (with_reducible refine Y.g_isi_bl_bool ?_)
  | (with_reducible refine Y.g_isi_bl_str ?_)
  | (with_reducible refine Y.g_isi_bl_list ?_)
  | (with_reducible refine Y.g_isi_bl_tuple ?_)
  | (with_reducible refine Y.g_isi_str_int ?_)
  | (with_reducible refine Y.g_isi_str_bool ?_)
  | (with_reducible refine Y.g_isi_str_str ?_)
  | (with_reducible refine Y.g_isi_str_list ?_)
  | (with_reducible refine Y.g_isi_str_tuple ?_)
  | (with_reducible refine Y.g_isi_non_int ?_)
  | (with_reducible refine Y.g_isi_non_bool ?_)
  | (with_reducible refine Y.g_isi_non_str ?_)
  | (with_reducible refine Y.g_isi_non_list ?_)
  | (with_reducible refine Y.g_isi_non_tuple ?_)
  | ((with_reducible refine' Y.g_isi_lst_int ?h ?_); (case h => walk_at "at"))
  | ((with_reducible refine' Y.g_isi_lst_bool ?h ?_); (case h => walk_at "at"))
  | ((with_reducible refine' Y.g_isi_lst_str ?h ?_); (case h => walk_at "at"))
  | ((with_reducible refine' Y.g_isi_lst_list ?h ?_); (case h => walk_at "at"))
  | ((with_reducible refine' Y.g_isi_lst_tuple ?h ?_); (case h => walk_at "at"))
  | ((with_reducible refine' Y.g_isi_tup_int ?h ?_); (case h => walk_at "at"))
  | ((with_reducible refine' Y.g_isi_tup_bool ?h ?_); (case h => walk_at "at"))
  | ((with_reducible refine' Y.g_isi_tup_str ?h ?_); (case h => walk_at "at"))
  | ((with_reducible refine' Y.g_isi_tup_list ?h ?_); (case h => walk_at "at"))
  | ((with_reducible refine' Y.g_isi_tup_tuple ?h ?_); (case h => walk_at "at")))
local macro_rules | `(tactic| walk_at "s1") => `(tactic| first
  | ((with_reducible refine' Y.g_var ?h ?_); (case h => exact rfl))
  | (with_reducible refine Y.g_c ?_)
  | (with_reducible refine Y.g_op ?_)
  | (with_reducible refine Y.g_cons ?_)
  | (with_reducible refine Y.g_nil ?_)
  | (with_reducible refine Y.g_test ?_)
  | (with_reducible refine Y.g_cb ?_)
  | (with_reducible refine Y.g_seq ?_)
  | (with_reducible refine Y.g_asg ?_)
  | (with_reducible refine Y.g_name ?_)
  | (with_reducible refine Y.g_ifS ?_)
  | (with_reducible refine Y.g_pow6 ?_)
  | (with_reducible refine Y.g_pow9 ?_)
  | (with_reducible refine Y.g_pow12 ?_)
  | (with_reducible refine Y.g_pow18 ?_)
  | (with_reducible refine Y.g_pow60 ?_)
  | ((with_reducible refine Y.g_rI ?c ?_); (case c => walk_at "sd"))
  | ((with_reducible refine Y.g_eq ?c ?_); (case c => walk_at "rf"))
  | ((with_reducible refine Y.g_ne ?c ?_); (case c => walk_at "rf"))
  | ((with_reducible refine' Y.g_ixL ?h ?a ?_); (case h => walk_at "sq"); (case a => walk_at "ai"))
  | ((with_reducible refine' Y.g_pick2 ?h ?a ?b fun v hv => ?_); (case h => walk_at "sq"); (case a => assumption); (case b => assumption))
  | ((with_reducible refine' Y.g_pick3 ?h ?a ?b fun v hv => ?_); (case h => walk_at "sq"); (case a => assumption); (case b => assumption))
  | ((with_reducible refine' Y.g_pick4 ?h ?a ?b fun v hv => ?_); (case h => walk_at "sq"); (case a => assumption); (case b => assumption))
  | ((with_reducible refine' Y.g_pick5 ?h ?a ?b fun v hv => ?_); (case h => walk_at "sq"); (case a => assumption); (case b => assumption))
  | ((with_reducible refine' Y.g_pick6 ?h ?a ?b fun v hv => ?_); (case h => walk_at "sq"); (case a => assumption); (case b => assumption))
  | ((with_reducible refine' Y.g_pick7 ?h ?a ?b fun v hv => ?_); (case h => walk_at "sq"); (case a => assumption); (case b => assumption))
  | ((with_reducible refine' Y.g_pick8 ?h ?a ?b fun v hv => ?_); (case h => walk_at "sq"); (case a => assumption); (case b => assumption))
  | ((with_reducible refine' Y.g_pick9 ?h ?a ?b fun v hv => ?_); (case h => walk_at "sq"); (case a => assumption); (case b => assumption))
  | ((with_reducible refine' Y.g_ixT ?h ?a ?_); (case h => walk_at "sq"); (case a => walk_at "ai"))
  | ((with_reducible refine' Y.g_setL ?h ?a ?_); (case h => walk_at "at"); (case a => walk_at "ai"))
  | ((with_reducible refine' Y.g_len ?h ?_); (case h => walk_at "sq"))
  | (with_reducible refine Y.g_call ?_)
  | (with_reducible refine Y.g_tB ?_)
  | (with_reducible refine Y.g_un ?_)
  | (with_reducible refine Y.g_if ?_)
  | (with_reducible refine Y.g_and ?_)
  | (with_reducible refine Y.g_or ?_)
  | (with_reducible refine Y.g_not ?_)
  | (with_reducible refine Y.g_tTup ?_)
  | (with_reducible refine Y.g_tLst ?_)
  | (with_reducible refine Y.g_sl ?_)
  | (with_reducible refine Y.g_pt ?_)
  | (with_reducible refine Y.g_np ?_)
  | (with_reducible refine Y.g_bm ?_)
  | (with_reducible refine Y.g_bm0 ?_)
  | (with_reducible refine Y.g_andV ?_)
  | (with_reducible refine Y.g_orV ?_)
  | (with_reducible refine Y.g_notV ?_)
  | (with_reducible refine Y.g_chain ?_)
  | (with_reducible refine Y.g_ret ?_)
  | (with_reducible refine Y.g_drop ?_)
  | (with_reducible refine Y.g_next ?_)
  | (with_reducible refine Y.g_sub ?_)
  | (with_reducible refine Y.g_gcons ?_)
  | (with_reducible refine Y.g_gnil ?_)
  | (with_reducible refine Y.g_par ?_)
  | (with_reducible refine Y.g_yes ?_)
  | (with_reducible refine Y.g_truth ?_)
  | (with_reducible refine Y.g_lstRg ?_)
  | (with_reducible refine Y.g_rg2 ?_)
  | (with_reducible refine Y.g_rg1 ?_)
  | (with_reducible refine Y.g_exII ?_)
  | (with_reducible refine Y.g_exI ?_)
  | (with_reducible refine Y.g_rng1 ?_)
  | (with_reducible refine Y.g_rng2 ?_)
  | (with_reducible refine Y.g_iList ?_)
  | (with_reducible refine Y.g_iTup ?_)
  | (with_reducible refine Y.g_for ?_)
  | (with_reducible refine Y.g_lc ?_)
  | (with_reducible refine Y.g_rI0 ?_)
  | (with_reducible refine Y.g_isN ?_)
  | (with_reducible refine Y.g_notN ?_)
  | (with_reducible refine Y.g_abs ?_)
  | (with_reducible refine Y.g_max2 ?_)
  | (with_reducible refine Y.g_min2 ?_)
  | (with_reducible refine Y.g_bl ?_)
  | ((with_reducible refine' Y.g_slL ?h fun p hp => ?_); (case h => walk_at "sq"))
  | ((with_reducible refine' Y.g_listOf ?h fun p hp => ?_); (case h => walk_at "sq"))
  | ((with_reducible refine' Y.g_append ?h ?z ?_); (case h => walk_at "at"); (case z => walk_at "sd"))
  | ((with_reducible refine Y.g_sz ?z fun p hp => ?_); (case z => walk_at "sd"))
  | ((with_reducible refine' Y.g_gtup ?h ?l ?_); (case h => walk_at "sq"); (case l => walk_at "rf"))
  | ((with_reducible refine' Y.g_tyL ?h ?_); (case h => walk_at "sq"))
  | ((with_reducible refine Y.g_rng1b ?a ?b ?_); (case a => walk_at "sd"); (case b => walk_at "sd"))
  | ((with_reducible refine Y.g_rng2b ?a ?_); (case a => walk_at "sd"))
  | ((with_reducible refine' Y.g_iListb ?h ?_); (case h => walk_at "sq"))
  | ((with_reducible refine' Y.g_iTupb ?h ?_); (case h => walk_at "sq"))
  | ((with_reducible refine' Y.g_draw ?T ?c0 ?c9 fun v H' h0 h1 T' k' => ?_); (case T => walk_at "tp"); (case c0 => walk_at "sd"); (case c9 => walk_at "sd"))
  | walk_at "isi"
  | ((with_reducible refine' Y.g_nights ?h ?b fun p H' hs hp he => ?_); (case h => walk_at "sq"); (case b => exact ⟨by omega, by omega, by omega, by omega⟩))
  | ((with_reducible refine Y.g_wipe ?h ?_); (case h => exact rfl))
  | (with_reducible refine iteT ?_)
  | (with_reducible refine iteF ?_)
  | (with_reducible refine Y.ite_nt ?_)
  | (with_reducible refine Y.ite_nf ?_))
local macro_rules | `(tactic| walk_at "ss") => `(tactic| repeat walk_at "s1")
def sp_nights_of (K : PySem.W.Frag) : Sp := Sp1 fun x H Q E => ∃ (a : Addr) (c g : Int), x = .ref a ∧ SqT K H a [.int c, .int g] ∧ c - 1000 ≤ g ∧ g ≤ c + 1000 ∧ -10000000 ≤ c ∧ c ≤ 10000000 ∧
  ∀ (p : Addr) (H' : Hp), Same H H' → H p = none → H' p = some (.lst ((days c g).map V.int)) → Q (.ref p) H'
theorem g_nights {K : PySem.W.Frag} {a : Addr} {c g : Int} {H : Hp} {Q : VK} {E : XK} (h : SqT K H a [.int c, .int g]) (b : c - 1000 ≤ g ∧ g ≤ c + 1000 ∧ -10000000 ≤ c ∧ c ≤ 10000000)
    (q : ∀ (p : Addr) (H' : Hp), Same H H' → H p = none → H' p = some (.lst ((days c g).map V.int)) → Q (.ref p) H') : sp_nights_of K ([.ref a] ++ []) H Q E :=
  ⟨_, rfl, a, c, g, rfl, h, b.1, b.2.1, b.2.2.1, b.2.2.2, q⟩
def t_nights_of (K : PySem.W.Frag) : TS :=
  (tRet (tLstRg (tRg2 (tOp (rIxT K) (tVar 0) (tC (.int 0))) (tOp (rIxT K) (tVar 0) (tC (.int 1))))))
theorem pure_nights_of {K : PySem.W.Frag} {x : V} {H : Hp} {Q : VK} {E : XK} (h : sp_nights_of K [x] H Q E) : t_nights_of K { nx := fun _ H' => Q .non H', rt := Q } [some x] H := by
  obtain ⟨x, e, a, c, g, rfl, hS, h1, h2, h3, h4, q⟩ := h
  cases e
  unfold t_nights_of
  walk_at "ss"
  refine ⟨⟨by omega, by omega, by omega, by omega, by omega⟩, fun p hp => q p _ (same_new hp) hp (by rw [upd_same, rgV_days])⟩
end Y
namespace Y
open PySem PySem.Spec PyProof.Rows L2
/-! steps: a heap's facts (at), a list's or tuple's (sq), side questions (sd), one step (s1), many (ss) -/
local macro_rules | `(tactic| walk_at "tp") => `(tactic| first
  | assumption
  | ((with_reducible refine' Y.tape_new ?n0 ?n1); (case n0 => assumption); (case n1 => walk_at "tp"))
  | ((with_reducible refine' Y.tape_same ?n0 ?n1); (case n0 => assumption); (case n1 => walk_at "tp"))
  | ((with_reducible refine' Y.tape_own ?n0 ?n1 ?n2); (case n0 => assumption); (case n1 => walk_at "tp"); (case n2 => walk_at "tp")))
local macro_rules | `(tactic| walk_at "ni") => `(tactic| first
  | assumption
  | ((with_reducible refine' Y.ni_tape ?n0 ?n1); (case n0 => assumption); (case n1 => walk_at "tp")))
local macro_rules | `(tactic| walk_at "at0") => `(tactic| first
  | assumption
  | with_reducible exact upd_same
  | ((with_reducible refine' Y.at_new ?n0 ?n1); (case n0 => assumption); (case n1 => walk_at "at0"))
  | ((with_reducible refine' Y.get_same ?n0 ?n1); (case n0 => assumption); (case n1 => walk_at "at0"))
  | ((with_reducible refine' Y.get_kp ?n0 ?n1 ?n2); (case n0 => assumption); (case n1 => walk_at "at0"); (case n2 => walk_at "ni")))
local macro_rules | `(tactic| walk_at "ne") => `(tactic| first
  | assumption
  | exact Ne.symm (by assumption)
  | ((with_reducible refine' Y.ne_new ?n0 ?n1); (case n0 => assumption); (case n1 => walk_at "at0"))
  | ((with_reducible refine' Y.ne_new' ?n0 ?n1); (case n0 => assumption); (case n1 => walk_at "at0")))
local macro_rules | `(tactic| walk_at "sm") => `(tactic| first
  | assumption
  | with_reducible exact Same.refl _
  | ((with_reducible refine' Y.sm_new ?n0 ?n1); (case n0 => assumption); (case n1 => walk_at "sm"))
  | ((with_reducible refine' Y.sm_own ?n0 ?n1); (case n0 => assumption); (case n1 => walk_at "sm"))
  | ((with_reducible refine' Y.sm_tr ?n0 ?n1); (case n0 => assumption); (case n1 => walk_at "sm")))
local macro_rules | `(tactic| walk_at "fr") => `(tactic| first
  | assumption
  | ((with_reducible refine' Y.fr_of ?n0 ?n1); (case n0 => assumption); (case n1 => walk_at "sm")))
local macro_rules | `(tactic| walk_at "at") => `(tactic| first
  | assumption
  | with_reducible exact upd_same
  | ((with_reducible refine' Y.at_new ?n0 ?n1); (case n0 => assumption); (case n1 => walk_at "at"))
  | ((with_reducible refine' Y.at_ne ?n0 ?n1); (case n0 => walk_at "ne"); (case n1 => walk_at "at"))
  | ((with_reducible refine' Y.get_same ?n0 ?n1); (case n0 => assumption); (case n1 => walk_at "at"))
  | ((with_reducible refine' Y.get_kp ?n0 ?n1 ?n2); (case n0 => assumption); (case n1 => walk_at "at"); (case n2 => walk_at "ni")))
local macro_rules | `(tactic| walk_at "sq") => `(tactic| first
  | assumption
  | (refine' SqL.of ?n0; (case n0 => walk_at "at"))
  | (refine' SqT.of ?n0; (case n0 => walk_at "at"))
  | ((with_reducible refine' Y.sq_or ?n0); (case n0 => walk_at "at"))
  | ((with_reducible refine' Y.sq_orT ?n0); (case n0 => walk_at "at")))
local macro_rules | `(tactic| walk_at "dp") => `(tactic| first
  | assumption
  | exact Dp.int _
  | exact Dp.str _
  | exact Dp.bl _
  | exact Dp.non
  | (refine' Dp.tup ?s0 ?a0; (case s0 => walk_at "sq"); (case a0 => walk_at "dpa"))
  | (refine' Dp.lst ?s0 ?a0; (case s0 => walk_at "sq"); (case a0 => walk_at "dpa")))
local macro_rules | `(tactic| walk_at "dpa") => `(tactic| first
  | exact DpAll.nil
  | exact Y.dp_ints _
  | (refine' DpAll.cons ?a0 ?b0; (case a0 => walk_at "dp"); (case b0 => walk_at "dpa")))
local macro_rules | `(tactic| walk_at "sh") => `(tactic| first
  | assumption
  | exact ⟨by simp [PyData.canLay0, PyData.canLayAll0], by simp [PyData.depth, PyData.depthAll]⟩)
local macro_rules | `(tactic| walk_at "sd") => `(tactic| ((try dsimp only); first
  | assumption
  | omega
  | exact rfl
  | decide
  | exact Or.inl ⟨by omega, by omega⟩
  | exact Or.inr ⟨by omega, by omega⟩
  | exact ⟨by first | assumption | omega | decide, by first | assumption | omega | decide⟩
  | exact ⟨by decide, by decide, by decide⟩
  | (simp only [List.length_map, List.length_append, List.length_cons, List.length_nil, List.length_singleton, sizeLine_eq]; omega)))
local macro_rules | `(tactic| walk_at "rf") => `(tactic| exact rfl)
local macro_rules | `(tactic| walk_at "ai") => `(tactic| first
  | assumption
  | ((with_reducible refine' Y.at_k0 ?r); (case r => exact rfl))
  | ((with_reducible refine' Y.at_k1 ?r); (case r => exact rfl))
  | ((with_reducible refine' Y.at_k2 ?r); (case r => exact rfl))
  | ((with_reducible refine' Y.at_k3 ?r); (case r => exact rfl))
  | ((with_reducible refine' Y.at_k4 ?r); (case r => exact rfl))
  | ((with_reducible refine' Y.at_k5 ?r); (case r => exact rfl))
  | ((with_reducible refine' Y.at_k6 ?r); (case r => exact rfl))
  | ((with_reducible refine' Y.at_k7 ?r); (case r => exact rfl))
  | ((with_reducible refine' Y.atI_map ?r); (case r => assumption))
  | ((with_reducible refine' Y.ix_k0 ?r); (case r => walk_at "sd"))
  | ((with_reducible refine' Y.ix_k1 ?r); (case r => walk_at "sd"))
  | ((with_reducible refine' Y.ix_k2 ?r); (case r => walk_at "sd"))
  | ((with_reducible refine' Y.ix_k3 ?r); (case r => walk_at "sd"))
  | ((with_reducible refine' Y.ix_zero ?r); (case r => simp)))
local macro_rules | `(tactic| walk_at "isi") => `(tactic| first
  | (with_reducible refine Y.g_isi_int_int ?_)
  | (with_reducible refine Y.g_isi_int_bool ?_)
  | (with_reducible refine Y.g_isi_int_str ?_)
  | (with_reducible refine Y.g_isi_int_list ?_)
  | (with_reducible refine Y.g_isi_int_tuple ?_)
  | (with_reducible refine Y.g_isi_bl_int ?_)
  | (with_reducible refine Y.g_isi_bl_bool ?_)
  | (with_reducible refine Y.g_isi_bl_str ?_)
  | (with_reducible refine Y.g_isi_bl_list ?_)
  | (with_reducible refine Y.g_isi_bl_tuple ?_)
  | (with_reducible refine Y.g_isi_str_int ?_)
  | (with_reducible refine Y.g_isi_str_bool ?_)
  | (with_reducible refine Y.g_isi_str_str ?_)
  | (with_reducible refine Y.g_isi_str_list ?_)
  | (with_reducible refine Y.g_isi_str_tuple ?_)
  | (with_reducible refine Y.g_isi_non_int ?_)
  | (with_reducible refine Y.g_isi_non_bool ?_)
  | (with_reducible refine Y.g_isi_non_str ?_)
  | (with_reducible refine Y.g_isi_non_list ?_)
  | (with_reducible refine Y.g_isi_non_tuple ?_)
  | ((with_reducible refine' Y.g_isi_lst_int ?h ?_); (case h => walk_at "at"))
  | ((with_reducible refine' Y.g_isi_lst_bool ?h ?_); (case h => walk_at "at"))
  | ((with_reducible refine' Y.g_isi_lst_str ?h ?_); (case h => walk_at "at"))
  | ((with_reducible refine' Y.g_isi_lst_list ?h ?_); (case h => walk_at "at"))
  | ((with_reducible refine' Y.g_isi_lst_tuple ?h ?_); (case h => walk_at "at"))
  | ((with_reducible refine' Y.g_isi_tup_int ?h ?_); (case h => walk_at "at"))
  | ((with_reducible refine' Y.g_isi_tup_bool ?h ?_); (case h => walk_at "at"))
  | ((with_reducible refine' Y.g_isi_tup_str ?h ?_); (case h => walk_at "at"))
  | ((with_reducible refine' Y.g_isi_tup_list ?h ?_); (case h => walk_at "at"))
  | ((with_reducible refine' Y.g_isi_tup_tuple ?h ?_); (case h => walk_at "at")))
local macro_rules | `(tactic| walk_at "s1") => `(tactic| first
  | ((with_reducible refine' Y.g_var ?h ?_); (case h => exact rfl))
  | (with_reducible refine Y.g_c ?_)
  | (with_reducible refine Y.g_op ?_)
  | (with_reducible refine Y.g_cons ?_)
  | (with_reducible refine Y.g_nil ?_)
  | (with_reducible refine Y.g_test ?_)
  | (with_reducible refine Y.g_cb ?_)
  | (with_reducible refine Y.g_seq ?_)
  | (with_reducible refine Y.g_asg ?_)
  | (with_reducible refine Y.g_name ?_)
  | (with_reducible refine Y.g_ifS ?_)
  | (with_reducible refine Y.g_pow6 ?_)
  | (with_reducible refine Y.g_pow9 ?_)
  | (with_reducible refine Y.g_pow12 ?_)
  | (with_reducible refine Y.g_pow18 ?_)
  | (with_reducible refine Y.g_pow60 ?_)
  | ((with_reducible refine Y.g_rI ?c ?_); (case c => walk_at "sd"))
  | ((with_reducible refine Y.g_eq ?c ?_); (case c => walk_at "rf"))
  | ((with_reducible refine Y.g_ne ?c ?_); (case c => walk_at "rf"))
  | ((with_reducible refine' Y.g_ixL ?h ?a ?_); (case h => walk_at "sq"); (case a => walk_at "ai"))
  | ((with_reducible refine' Y.g_pick2 ?h ?a ?b fun v hv => ?_); (case h => walk_at "sq"); (case a => assumption); (case b => assumption))
  | ((with_reducible refine' Y.g_pick3 ?h ?a ?b fun v hv => ?_); (case h => walk_at "sq"); (case a => assumption); (case b => assumption))
  | ((with_reducible refine' Y.g_pick4 ?h ?a ?b fun v hv => ?_); (case h => walk_at "sq"); (case a => assumption); (case b => assumption))
  | ((with_reducible refine' Y.g_pick5 ?h ?a ?b fun v hv => ?_); (case h => walk_at "sq"); (case a => assumption); (case b => assumption))
  | ((with_reducible refine' Y.g_pick6 ?h ?a ?b fun v hv => ?_); (case h => walk_at "sq"); (case a => assumption); (case b => assumption))
  | ((with_reducible refine' Y.g_pick7 ?h ?a ?b fun v hv => ?_); (case h => walk_at "sq"); (case a => assumption); (case b => assumption))
  | ((with_reducible refine' Y.g_pick8 ?h ?a ?b fun v hv => ?_); (case h => walk_at "sq"); (case a => assumption); (case b => assumption))
  | ((with_reducible refine' Y.g_pick9 ?h ?a ?b fun v hv => ?_); (case h => walk_at "sq"); (case a => assumption); (case b => assumption))
  | ((with_reducible refine' Y.g_ixT ?h ?a ?_); (case h => walk_at "sq"); (case a => walk_at "ai"))
  | ((with_reducible refine' Y.g_setL ?h ?a ?_); (case h => walk_at "at"); (case a => walk_at "ai"))
  | ((with_reducible refine' Y.g_len ?h ?_); (case h => walk_at "sq"))
  | (with_reducible refine Y.g_call ?_)
  | (with_reducible refine Y.g_tB ?_)
  | (with_reducible refine Y.g_un ?_)
  | (with_reducible refine Y.g_if ?_)
  | (with_reducible refine Y.g_and ?_)
  | (with_reducible refine Y.g_or ?_)
  | (with_reducible refine Y.g_not ?_)
  | (with_reducible refine Y.g_tTup ?_)
  | (with_reducible refine Y.g_tLst ?_)
  | (with_reducible refine Y.g_sl ?_)
  | (with_reducible refine Y.g_pt ?_)
  | (with_reducible refine Y.g_np ?_)
  | (with_reducible refine Y.g_bm ?_)
  | (with_reducible refine Y.g_bm0 ?_)
  | (with_reducible refine Y.g_andV ?_)
  | (with_reducible refine Y.g_orV ?_)
  | (with_reducible refine Y.g_notV ?_)
  | (with_reducible refine Y.g_chain ?_)
  | (with_reducible refine Y.g_ret ?_)
  | (with_reducible refine Y.g_drop ?_)
  | (with_reducible refine Y.g_next ?_)
  | (with_reducible refine Y.g_sub ?_)
  | (with_reducible refine Y.g_gcons ?_)
  | (with_reducible refine Y.g_gnil ?_)
  | (with_reducible refine Y.g_par ?_)
  | (with_reducible refine Y.g_yes ?_)
  | (with_reducible refine Y.g_truth ?_)
  | (with_reducible refine Y.g_lstRg ?_)
  | (with_reducible refine Y.g_rg2 ?_)
  | (with_reducible refine Y.g_rg1 ?_)
  | (with_reducible refine Y.g_exII ?_)
  | (with_reducible refine Y.g_exI ?_)
  | (with_reducible refine Y.g_rng1 ?_)
  | (with_reducible refine Y.g_rng2 ?_)
  | (with_reducible refine Y.g_iList ?_)
  | (with_reducible refine Y.g_iTup ?_)
  | (with_reducible refine Y.g_for ?_)
  | (with_reducible refine Y.g_lc ?_)
  | (with_reducible refine Y.g_rI0 ?_)
  | (with_reducible refine Y.g_isN ?_)
  | (with_reducible refine Y.g_notN ?_)
  | (with_reducible refine Y.g_abs ?_)
  | (with_reducible refine Y.g_max2 ?_)
  | (with_reducible refine Y.g_min2 ?_)
  | (with_reducible refine Y.g_bl ?_)
  | ((with_reducible refine' Y.g_slL ?h fun p hp => ?_); (case h => walk_at "sq"))
  | ((with_reducible refine' Y.g_listOf ?h fun p hp => ?_); (case h => walk_at "sq"))
  | ((with_reducible refine' Y.g_append ?h ?z ?_); (case h => walk_at "at"); (case z => walk_at "sd"))
  | ((with_reducible refine Y.g_sz ?z fun p hp => ?_); (case z => walk_at "sd"))
  | ((with_reducible refine' Y.g_gtup ?h ?l ?_); (case h => walk_at "sq"); (case l => walk_at "rf"))
  | ((with_reducible refine' Y.g_tyL ?h ?_); (case h => walk_at "sq"))
  | ((with_reducible refine Y.g_rng1b ?a ?b ?_); (case a => walk_at "sd"); (case b => walk_at "sd"))
  | ((with_reducible refine Y.g_rng2b ?a ?_); (case a => walk_at "sd"))
  | ((with_reducible refine' Y.g_iListb ?h ?_); (case h => walk_at "sq"))
  | ((with_reducible refine' Y.g_iTupb ?h ?_); (case h => walk_at "sq"))
  | ((with_reducible refine' Y.g_draw ?T ?c0 ?c9 fun v H' h0 h1 T' k' => ?_); (case T => walk_at "tp"); (case c0 => walk_at "sd"); (case c9 => walk_at "sd"))
  | walk_at "isi"
  | ((with_reducible refine' Y.g_nights ?h ?b fun p H' hs hp he => ?_); (case h => walk_at "sq"); (case b => exact ⟨by omega, by omega, by omega, by omega⟩))
  | ((with_reducible refine Y.g_wipe ?h ?_); (case h => exact rfl))
  | (with_reducible refine iteT ?_)
  | (with_reducible refine iteF ?_)
  | (with_reducible refine Y.ite_nt ?_)
  | (with_reducible refine Y.ite_nf ?_))
local macro_rules | `(tactic| walk_at "ss") => `(tactic| repeat walk_at "s1")
def sp_law (K : PySem.W.Frag) : Sp := Sp1 fun x H Q E => ∃ (a : Addr) (ns : List Int), x = .ref a ∧ SqL K H a (ns.map V.int) ∧ ns.length ≤ 63 ∧ ∀ H', Q (.bl true) H'
def t_law (K : PySem.W.Frag) : TS :=
  (tSeq (tAsg (tCall (sp_Ltape K) [] E0 (tCons (tVar 0) tNil)) (gName 1))
  (tSeq (tFor (iRng1 (tCons (tC (.int 12)) tNil)) (gName 2)
  (tSeq (tAsg (tOp rAdd (tC (.int 1)) (tCall (sp_Ldraw K) [] E0 (tCons (tVar 1) (tCons (tC (.int 14)) tNil)))) (gName 3))
  (tSeq (tAsg (tOp (rIxL K) (tLst (tCons (tC (.int 0)) (tCons (tOp rSub (tOp rPow (tC (.int 10)) (tC (.int 6))) (tVar 3)) (tCons (tC (.int 1)) (tCons (tCall (sp_Ldraw K) [] E0 (tCons (tVar 1) (tCons (tOp rSub (tOp rPow (tC (.int 10)) (tC (.int 6))) (tC (.int 13))) tNil))) tNil))))) (tCall (sp_Ldraw K) [] E0 (tCons (tVar 1) (tCons (tC (.int 4)) tNil)))) (gName 4))
  (tSeq (tAsg (tTup (tCons (tVar 4) (tCons (tOp rAdd (tVar 4) (tVar 3)) tNil))) (gName 5))
  (tSeq (tAsg (tCall (sp_nights_of K) [] E0 (tCons (tVar 5) tNil)) (gName 6))
  (tSeq (tIfS (tOr (tNot (tB (tCB (rIsi K) (tCons (tVar 6) (tCons (tC (.ty "list")) tNil))))) (tTest (tOp rNe (tCB (rLen K) (tCons (tVar 6) tNil)) (tVar 3))))
  (tRet (tC (.bl false)))
  tNext)
  (tSeq (tFor (iRng1 (tCons (tVar 3) tNil)) (gName 7)
  (tIfS (tOr (tNot (tB (tCB (rIsi K) (tCons (tOp (rIxL K) (tVar 6) (tVar 7)) (tCons (tC (.ty "int")) tNil))))) (tOr (tB (tCB (rIsi K) (tCons (tOp (rIxL K) (tVar 6) (tVar 7)) (tCons (tC (.ty "bool")) tNil)))) (tTest (tOp rNe (tOp (rIxL K) (tVar 6) (tVar 7)) (tOp rAdd (tVar 4) (tVar 7))))))
  (tRet (tC (.bl false)))
  tNext))
  (tSeq (tDrop (tBM K "list" rAppend (tVar 6) (tCons (tVar 4) tNil)))
  (tIfS (tOr (tTest (tOp (rNeD K) (tCall (sp_nights_of K) [] E0 (tCons (tVar 5) tNil)) (tSl (rSlL K) (tVar 6) tNoPart (tPart (tVar 3))))) (tTest (tOp (rNeD K) (tVar 5) (tTup (tCons (tVar 4) (tCons (tOp rAdd (tVar 4) (tVar 3)) tNil))))))
  (tRet (tC (.bl false)))
  tNext)))))))))
  (tRet (tC (.bl true)))))
theorem pure_law {K : PySem.W.Frag} {x : V} {H : Hp} {Q : VK} {E : XK} (h : sp_law K [x] H Q E) : t_law K { nx := fun _ H' => Q .non H', rt := Q } [some x, none, none, none, none, none, none, none] H := by
  obtain ⟨x, e, a, ns, rfl, hS, hl, q⟩ := h
  cases e
  unfold t_law
  walk_at "ss"
  refine ⟨_, rfl, a, ns, rfl, hS, hl, fun t b s H1 sm ft fb fs T => ?_⟩
  walk_at "ss"
  refine for_range (lo := 0) (n := Int.toNat 12) (fun i σ H => ∃ v2 v3 v4 v5 v6 v7, σ = [some (.ref a), some (.ref t), v2, v3, v4, v5, v6, v7] ∧ Tape H t b s) ⟨_, _, _, _, _, _, rfl, T⟩ ?_ ?_
  · clear hS hl sm ft fb fs T H1 H
    rintro i σ H - ⟨v2, v3, v4, v5, v6, v7, rfl, T⟩
    walk_at "ss"
    rename_i m H1 hm0 hm1 T1 k1 w1 H2 hw0 hw1 T2 k2 pl hpl w2 H3 hz0 hz1 T3 k3 come hcome st hst told H4 sm fr ht
    clear k1 k2
    refine ite_ndt (by rw [List.length_map, days_len]; congr 1; omega) ?_
    walk_at "ss"
    refine for_range (n := (1 + m).toNat) (fun j σ H' => ∃ v7, σ = [some (.ref a), some (.ref t), some (.int (0 + (i : Int))), some (.int (1 + m)), some (.int come), some (.ref st), some (.ref told), v7] ∧ H' = H4) ⟨_, rfl, rfl⟩ ?_ ?_
    · rintro j σ H' hj ⟨v7, rfl, rfl⟩
      have hat := days_at (c := come) (g := come + (1 + m)) (i := 0 + (j : Int)) (by omega) (by omega)
      walk_at "ss"
      refine ite_ndt (by rw [V.int.injEq]) ?_
      walk_at "ss"
      exact ⟨_, rfl, rfl⟩
    · rintro σ H' ⟨v7, rfl, rfl⟩
      walk_at "ss"
      refine g_append (by walk_at "at") (by rw [List.length_map, days_len, sizeLine_eq]; omega) ?_
      walk_at "ss"
      rename_i p4 H5 sm5 fr5 h5 p6 hp6
      have ecut : cutV ((days come (come + (1 + m))).map V.int ++ [V.int come]) none (some (1 + m)) = (days come (come + (1 + m))).map V.int := by
        rw [cut_to (by omega), List.take_append_of_le_length (by rw [List.length_map, days_len]; omega), List.take_of_length_le (by rw [List.length_map, days_len]; omega)]
      refine g_neD_ints (ns := days come (come + (1 + m))) (ms := days come (come + (1 + m))) (by walk_at "sq") (SqL.of (by rw [upd_same, ecut])) ?_
      rw [decide_eq_true rfl]
      walk_at "ss"
      rename_i p7 hp7
      have est : H' st = some (.tup [.int come, .int (come + (1 + m))]) := sm _ _ (by rw [upd_same])
      have nst : st ≠ told := ne_of_none (o := .tup [.int come, .int (come + (1 + m))]) (by rw [upd_same]) fr
      refine g_neD_same (n := 64) (d := .tuple [.int come, .int (come + (1 + m))]) (by walk_at "dp") (by walk_at "dp") (by walk_at "sh") (by decide) ?_
      walk_at "ss"
      exact ⟨_, _, _, _, _, _, rfl, by walk_at "tp"⟩
  · rintro σ H ⟨v2, v3, v4, v5, v6, v7, rfl, T⟩
    walk_at "ss"
    exact q _
end Y
namespace Y
open PySem PySem.Spec PyProof.Rows L2
def top (i : Nat) : Stmt := PySem.Challenge.pw_stayprice_k02_nights_of.main.body.getD i (.Pass ⟨0, 0, 0, 0⟩)
abbrev FD (K : PySem.W.Frag) (x : Str) (st : Stmt) (f : Addr) (fd : FuncData) : Prop := FunD K x x (defArgs st) (defBody st) (defScope st) [] [] f fd
abbrev s_Ltape : Stmt := top 3
abbrev s_Ldraw : Stmt := top 4
abbrev s_nights_of : Stmt := top 1
abbrev s_law : Stmt := top 5
/-- what the module's names hold -/
structure Txt (K : PySem.W.Frag) (mg : Str → Option Value) : Prop where
  b_abs : mg "abs" = none
  b_bool : mg "bool" = none
  b_int : mg "int" = none
  b_isinstance : mg "isinstance" = none
  b_len : mg "len" = none
  b_list : mg "list" = none
  b_range : mg "range" = none
section
variable {P : Program} {w : World} {K : PySem.W.Frag} {mg : Str → Option Value} {base : Heap}
theorem sc_Ltape : FnScope ["_law_script", "_law_cell"] ["_law_script"] (defScope s_Ltape) := ⟨rfl, rfl, rfl, by decide +kernel, rfl, by decide +kernel, by decide +kernel⟩
theorem ok_Ltape (T : Txt K mg) {f : Addr} {fd : FuncData} (F : FD K "_law_tape" s_Ltape f fd)  : FnOk P w K mg base CX0 1 f fd ["_law_script"] (sp_Ltape K) := by
  refine F.ok sc_Ltape (fun vs H Q E h => ?_) (fun cdv A outer s H vs Q E hr h => ⟨t_Ltape K, PSs.nox ?_, ?_⟩)
  · obtain ⟨_, rfl, _⟩ := h
    rfl
  · exact (pss_one (ps_ret (pe_lst (pa_cons (pe_lc (own := [("_law_cell", 1)]) (g := (gName 1)) (tt := (tTest (tOp rGe (tCB rAbs (tCons (tVar 1) tNil)) (tOp rPow (tC (.int 10)) (tC (.int 18)))))) rfl sc_Ltape.nd (pi_list (pe_slice sl_list (pv 0) po_none (po_some pe_int))) (blkOk_by (own := [("_law_cell", 1)]) (N := ["_law_script", "_law_cell"]) (sc := defScope s_Ltape) (by decide +kernel)) (fun _ _ _ _ _ => (pg_name (i := 1) sc_Ltape.nd rfl (Or.inl rfl))) (fun _ _ _ _ _ => (pts_one (pt_cmpR op_ge (pe_callB call_abs (by rfl) T.b_abs (by decide +kernel) (pa_cons (pv 1) pa_nil)) (pe_op op_pow pe_int pe_int) (nomark _)))) (fun _ _ _ _ _ => (pe_callB call_abs (by rfl) T.b_abs (by decide +kernel) (pa_cons (pv 1) pa_nil)))) (pa_cons (pe_callTy call_list_of (by rfl) T.b_list (by decide +kernel) (pa_cons (pe_slice sl_list (pv 0) po_none (po_some pe_int)) pa_nil)) (pa_cons pe_int pa_nil))))))
  · obtain ⟨_, rfl, _⟩ := id h
    exact pure_Ltape h
theorem sc_Ldraw : FnScope ["_law_tape_here", "_law_many", "_law_found", "_law_cell", "_law_number"] ["_law_tape_here", "_law_many"] (defScope s_Ldraw) := ⟨rfl, rfl, rfl, by decide +kernel, rfl, by decide +kernel, by decide +kernel⟩
theorem ok_Ldraw (T : Txt K mg) {f : Addr} {fd : FuncData} (F : FD K "_law_draw" s_Ldraw f fd)  : FnOk P w K mg base CX0 1 f fd ["_law_tape_here", "_law_many"] (sp_Ldraw K) := by
  refine F.ok sc_Ldraw (fun vs H Q E h => ?_) (fun cdv A outer s H vs Q E hr h => ⟨t_Ldraw K, PSs.nox ?_, ?_⟩)
  · obtain ⟨_, _, rfl, _⟩ := h
    rfl
  · exact (pss_cons (ps_asg (pe_op op_add (pe_ix ix_list (pv 0) pe_int (fun _ _ => rfl)) pe_int) (pg_sub (pv 0) pe_int set_list))
  (pss_cons (ps_while PassesOwn.never (PW.pt (pw_and (pt_cmpR op_gt (pe_callB call_len_seq (by rfl) T.b_len (by decide +kernel) (pa_cons (pe_ix ix_list (pv 0) pe_int (fun _ _ => rfl)) pa_nil)) pe_int (nomark _)) (pw_and1 (pt_cmpR op_eq (pe_ix ix_list (pe_ix ix_list (pv 0) pe_int (fun _ _ => rfl)) pe_int (fun _ _ => rfl)) pe_int (nomark _))))) (pss_one (ps_expr (pe_bm PySem.F.plainAttrs_list PySem.F.slot_list_pop PySem.F.type_list_pop mt_popAt (pe_ix ix_list (pv 0) pe_int (fun _ _ => rfl)) (pa_cons pe_int pa_nil)))))
  (pss_cons (ps_if (pt_cmpR op_gt (pe_callB call_len_seq (by rfl) T.b_len (by decide +kernel) (pa_cons (pe_ix ix_list (pv 0) pe_int (fun _ _ => rfl)) pa_nil)) pe_int (nomark _)) (pss_cons (ps_set (i := 2) sc_Ldraw.nd rfl (Or.inl rfl) (pe_op op_mod (pe_ix ix_list (pe_ix ix_list (pv 0) pe_int (fun _ _ => rfl)) pe_int (fun _ _ => rfl)) (pv 1)))
  (pss_cons (ps_asg (pe_op op_fdivW (pe_ix ix_list (pe_ix ix_list (pv 0) pe_int (fun _ _ => rfl)) pe_int (fun _ _ => rfl)) (pv 1)) (pg_sub (pe_ix ix_list (pv 0) pe_int (fun _ _ => rfl)) pe_int set_list))
  (pss_one (ps_ret (pv 2))))) pss_nil)
  (pss_cons (ps_set (i := 3) sc_Ldraw.nd rfl (Or.inl rfl) pe_int)
  (pss_cons (ps_if (pt_cmpR op_gt (pe_callB call_len_seq (by rfl) T.b_len (by decide +kernel) (pa_cons (pe_ix ix_list (pv 0) pe_int (fun _ _ => rfl)) pa_nil)) pe_int (nomark _)) (pss_one (ps_set (i := 3) sc_Ldraw.nd rfl (Or.inl rfl) (pe_ix ix_list (pe_ix ix_list (pv 0) pe_int (fun _ _ => rfl)) (pe_op op_mod (pe_ix ix_list (pv 0) pe_int (fun _ _ => rfl)) (pe_callB call_len_seq (by rfl) T.b_len (by decide +kernel) (pa_cons (pe_ix ix_list (pv 0) pe_int (fun _ _ => rfl)) pa_nil))) (fun _ _ => rfl)))) pss_nil)
  (pss_cons (ps_set (i := 4) sc_Ldraw.nd rfl (Or.inl rfl) (pe_op op_mod (pe_op op_mul (pe_op op_add (pe_op op_add (pe_op op_mod (pv 3) pe_int) (pe_op op_mul pe_int (pe_ix ix_list (pv 0) pe_int (fun _ _ => rfl)))) pe_int) pe_int) pe_int))
  (pss_cons (ps_set (i := 4) sc_Ldraw.nd rfl (Or.inl rfl) (pe_op op_mod (pe_op op_add (pe_op op_add (pe_op op_mul (pv 4) (pv 4)) (pe_op op_mul pe_int (pe_ix ix_list (pv 0) pe_int (fun _ _ => rfl)))) pe_int) pe_int))
  (pss_one (ps_ret (pe_op op_mod (pe_op op_fdivW (pe_op op_mod (pe_op op_mul (pe_op op_fdivW (pv 4) pe_int) pe_int) pe_int) pe_int) (pv 1)))))))))))
  · obtain ⟨_, _, rfl, _⟩ := id h
    exact pure_Ldraw h
theorem sc_nights_of : FnScope ["stay"] ["stay"] (defScope s_nights_of) := ⟨rfl, rfl, rfl, by decide +kernel, rfl, by decide +kernel, by decide +kernel⟩
theorem ok_nights_of (T : Txt K mg) {f : Addr} {fd : FuncData} (F : FD K "nights_of" s_nights_of f fd)  : FnOk P w K mg base CX0 1 f fd ["stay"] (sp_nights_of K) := by
  refine F.ok sc_nights_of (fun vs H Q E h => ?_) (fun cdv A outer s H vs Q E hr h => ⟨t_nights_of K, PSs.nox ?_, ?_⟩)
  · obtain ⟨_, rfl, _⟩ := h
    rfl
  · exact (pss_one (ps_ret (pe_listRg rfl rfl T.b_list (prg_2 rfl T.b_range (pe_ix ix_tup (pv 0) pe_int (fun _ _ => rfl)) (pe_ix ix_tup (pv 0) pe_int (fun _ _ => rfl))))))
  · obtain ⟨_, rfl, _⟩ := id h
    exact pure_nights_of h
theorem sc_law : FnScope ["_law_script", "_law_tape_here", "_law_turn", "_law_many", "_law_come", "_law_stay", "_law_told", "_law_k"] ["_law_script"] (defScope s_law) := ⟨rfl, rfl, rfl, by decide +kernel, rfl, by decide +kernel, by decide +kernel⟩
theorem ok_law (T : Txt K mg) {f : Addr} {fd : FuncData} (F : FD K "law" s_law f fd) (c_Ltape : Y.Cal P w K mg base CX0 1 "_law_tape" (sp_Ltape K) []) (c_Ldraw : Y.Cal P w K mg base CX0 1 "_law_draw" (sp_Ldraw K) []) (c_nights_of : Y.Cal P w K mg base CX0 1 "nights_of" (sp_nights_of K) []) : FnOk P w K mg base CX0 2 f fd ["_law_script"] (sp_law K) := by
  refine F.ok sc_law (fun vs H Q E h => ?_) (fun cdv A outer s H vs Q E hr h => ⟨t_law K, PSs.nox ?_, ?_⟩)
  · obtain ⟨_, rfl, _⟩ := h
    rfl
  · exact (pss_cons (ps_set (i := 1) sc_law.nd rfl (Or.inl rfl) (Y.pe_c c_Ltape hr (by decide) rfl pass0 (pa_cons (pv 0) pa_nil)))
  (pss_cons (ps_for PassesOwn.never rfl (pi_range1 rfl T.b_range (pa_cons pe_int pa_nil)) (pg_name (i := 2) sc_law.nd rfl (Or.inl rfl)) (pss_cons (ps_set (i := 3) sc_law.nd rfl (Or.inl rfl) (pe_op op_add pe_int (Y.pe_c c_Ldraw hr (by decide) rfl pass0 (pa_cons (pv 1) (pa_cons pe_int pa_nil)))))
  (pss_cons (ps_set (i := 4) sc_law.nd rfl (Or.inl rfl) (pe_ix ix_list (pe_lst (pa_cons pe_int (pa_cons (pe_op op_sub (pe_op op_pow pe_int pe_int) (pv 3)) (pa_cons pe_int (pa_cons (Y.pe_c c_Ldraw hr (by decide) rfl pass0 (pa_cons (pv 1) (pa_cons (pe_op op_sub (pe_op op_pow pe_int pe_int) pe_int) pa_nil))) pa_nil))))) (Y.pe_c c_Ldraw hr (by decide) rfl pass0 (pa_cons (pv 1) (pa_cons pe_int pa_nil))) (fun _ _ => rfl)))
  (pss_cons (ps_set (i := 5) sc_law.nd rfl (Or.inl rfl) (pe_tup (pa_cons (pv 4) (pa_cons (pe_op op_add (pv 4) (pv 3)) pa_nil))))
  (pss_cons (ps_set (i := 6) sc_law.nd rfl (Or.inl rfl) (Y.pe_c c_nights_of hr (by decide) rfl pass0 (pa_cons (pv 5) pa_nil)))
  (pss_cons (ps_if (PW.pt (pw_or (pt_not (pt_val (pe_callB call_isi (by rfl) T.b_isinstance (by decide +kernel) (pa_cons (pv 6) (pa_cons (pe_bltn (v := .ty "list") (by rfl) T.b_list (by decide +kernel) rfl) pa_nil))))) (pw_or1 (pt_cmpR op_ne (pe_callB call_len_seq (by rfl) T.b_len (by decide +kernel) (pa_cons (pv 6) pa_nil)) (pv 3) (nomark _))))) (pss_one (ps_ret pe_bl)) pss_nil)
  (pss_cons (ps_for PassesOwn.never rfl (pi_range1 rfl T.b_range (pa_cons (pv 3) pa_nil)) (pg_name (i := 7) sc_law.nd rfl (Or.inl rfl)) (pss_one (ps_if (PW.pt (pw_or (pt_not (pt_val (pe_callB call_isi (by rfl) T.b_isinstance (by decide +kernel) (pa_cons (pe_ix ix_list (pv 6) (pv 7) (fun _ _ => rfl)) (pa_cons (pe_bltn (v := .ty "int") (by rfl) T.b_int (by decide +kernel) rfl) pa_nil))))) (pw_or (pt_val (pe_callB call_isi (by rfl) T.b_isinstance (by decide +kernel) (pa_cons (pe_ix ix_list (pv 6) (pv 7) (fun _ _ => rfl)) (pa_cons (pe_bltn (v := .ty "bool") (by rfl) T.b_bool (by decide +kernel) rfl) pa_nil)))) (pw_or1 (pt_cmpR op_ne (pe_ix ix_list (pv 6) (pv 7) (fun _ _ => rfl)) (pe_op op_add (pv 4) (pv 7)) (nomark _)))))) (pss_one (ps_ret pe_bl)) pss_nil)))
  (pss_cons (ps_expr (pe_bm PySem.F.plainAttrs_list PySem.F.slot_list_append PySem.F.type_list_append mt_append (pv 6) (pa_cons (pv 4) pa_nil)))
  (pss_one (ps_if (PW.pt (pw_or (pt_cmpR (op_neD hr.units) (Y.pe_c c_nights_of hr (by decide) rfl pass0 (pa_cons (pv 5) pa_nil)) (pe_slice sl_list (pv 6) po_none (po_some (pv 3))) (nomark _)) (pw_or1 (pt_cmpR (op_neD hr.units) (pv 5) (pe_tup (pa_cons (pv 4) (pa_cons (pe_op op_add (pv 4) (pv 3)) pa_nil))) (nomark _))))) (pss_one (ps_ret pe_bl)) pss_nil))))))))))
  (pss_one (ps_ret pe_bl))))
  · obtain ⟨_, rfl, _⟩ := id h
    exact pure_law h
end
/-! the head: facts by names, the run of the top -/
def d_Ltape : He.DefD := ⟨("_law_tape", none), "_law_tape", "_law_tape", defArgs s_Ltape, defBody s_Ltape, defScope s_Ltape, [], []⟩
def d_Ldraw : He.DefD := ⟨("_law_draw", none), "_law_draw", "_law_draw", defArgs s_Ldraw, defBody s_Ldraw, defScope s_Ldraw, [], []⟩
def d_nights_of : He.DefD := ⟨("nights_of", none), "nights_of", "nights_of", defArgs s_nights_of, defBody s_nights_of, defScope s_nights_of, [], []⟩
def d_law : He.DefD := ⟨("law", none), "law", "law", defArgs s_law, defBody s_law, defScope s_law, [], []⟩
def fn : List He.DefD := [d_Ltape, d_Ldraw, d_nights_of, d_law]
def fa : List He.Fa := [.glo "_law_tape", .glo "_law_draw", .glo "nights_of", .glo "law", .free "abs", .free "bool", .free "int", .free "isinstance", .free "len", .free "list", .free "range"]
abbrev R : PySem.W.OpenRow := PySem.W.OpenLaw.row PySem.Challenge.rw_stayprice_k02_nights_of
abbrev hk : PySem.W.Hook := He.hookD 4 fa fn
def ob (s : PySem.W.SharedT) : He.AlD := He.obsDG 4 fa fn (HandSHeadRun.getT s)
theorem ob_eq (s : PySem.W.SharedT) : ob s = hk.obs s.abs := He.obsDG_eq (HandSHeadRun.getT_eq s)
def loose : List PySem.Str := ["nights_of", "_law_tape", "_law_draw"]
theorem run (w : World) : HandSHeadRun.RunEq R (PySem.W.view R.prog [5]) hk ob 6000 loose w := by
  intro os
  kernel_rfl
theorem facts {P : Program} {w : World} {K : PySem.W.Frag} {h : Heap} {mg : Str → Option Value} {f : Addr} (X : K.In h) (G : h.Ns mainGlobals mg) (hfa : mg ("law" : Str) = some (.ref f)) (c : He.SaysD fa fn K) :
    ∃ fd : FuncData, (∀ (s : Shared) (v : Value), BindsTo s fd ⟨[v], []⟩ [("_law_script", v)]) ∧ ∀ base : Heap, K.In base → base.Ns mainGlobals mg → FnOk P w K mg base CX0 2 f fd ["_law_script"] (sp_law K) := by
  obtain ⟨fd_Ltape, F_Ltape⟩ := c.def_ 0 (d := d_Ltape) rfl
  obtain ⟨fd_Ldraw, F_Ldraw⟩ := c.def_ 1 (d := d_Ldraw) rfl
  obtain ⟨fd_nights_of, F_nights_of⟩ := c.def_ 2 (d := d_nights_of) rfl
  obtain ⟨fd_law, F_law⟩ := c.def_ 3 (d := d_law) rfl
  have T : Txt K mg := ⟨He.free_ok X G (c.fact 4 (f := .free "abs") rfl), He.free_ok X G (c.fact 5 (f := .free "bool") rfl), He.free_ok X G (c.fact 6 (f := .free "int") rfl), He.free_ok X G (c.fact 7 (f := .free "isinstance") rfl), He.free_ok X G (c.fact 8 (f := .free "len") rfl), He.free_ok X G (c.fact 9 (f := .free "list") rfl), He.free_ok X G (c.fact 10 (f := .free "range") rfl)⟩
  have e := hfa.symm.trans (He.glo_ok X G (c.fact 3 (f := .glo "law") rfl))
  cases e
  have b := FunD.bindsA (ps := ["_law_script"]) F_law fun _ _ _ _ _ _ us hl => match us, hl with | [_], _ => rfl
  refine ⟨fd_law, fun s v => b s [v] rfl, fun base _ _ => ?_⟩
  have c_Ltape : Y.Cal P w K mg base CX0 1 "_law_tape" (sp_Ltape K) [] := ⟨_, fd_Ltape, ["_law_script"], [], ok_Ltape T F_Ltape , He.glo_ok X G (c.fact 0 (f := .glo "_law_tape") rfl), F_Ltape.kp, F_Ltape.bindsN fun _ _ _ _ _ _ us hl => match us, hl with | [_], _ => rfl, .nil⟩
  have c_Ldraw : Y.Cal P w K mg base CX0 1 "_law_draw" (sp_Ldraw K) [] := ⟨_, fd_Ldraw, ["_law_tape_here", "_law_many"], [], ok_Ldraw T F_Ldraw , He.glo_ok X G (c.fact 1 (f := .glo "_law_draw") rfl), F_Ldraw.kp, F_Ldraw.bindsN fun _ _ _ _ _ _ us hl => match us, hl with | [_, _], _ => rfl, .nil⟩
  have c_nights_of : Y.Cal P w K mg base CX0 1 "nights_of" (sp_nights_of K) [] := ⟨_, fd_nights_of, ["stay"], [], ok_nights_of T F_nights_of , He.glo_ok X G (c.fact 2 (f := .glo "nights_of") rfl), F_nights_of.kp, F_nights_of.bindsN fun _ _ _ _ _ _ us hl => match us, hl with | [_], _ => rfl, .nil⟩
  exact ok_law T F_law c_Ltape c_Ldraw c_nights_of
end Y
open PySem PySem.W PySem.Calls PyProof.Rows
set_option maxRecDepth 100000 in
set_option maxHeartbeats 0 in
theorem PySem.Challenge.cw_stayprice_k02_nights_of_holds : PySem.Challenge.rw_stayprice_k02_nights_of.Holds := by
  w_on; o_law
  refine HandSHeadRun.head_any (r := OpenLaw.row PySem.Challenge.rw_stayprice_k02_nights_of) (q := view (OpenLaw.row PySem.Challenge.rw_stayprice_k02_nights_of).prog [5]) (H := Y.hk) (ob := Y.ob) (M := 6000) (loose := Y.loose) (d := HandSHeadRun.topDef (OpenLaw.row PySem.Challenge.rw_stayprice_k02_nights_of).prog 5) (kwd := []) Y.ob_eq
    (by kernel_rfl) (fun s => by kernel_rfl) Y.run (by kernel_rfl) (by kernel_rfl) (by kernel_rfl) (by rfl) (by first | assumption | decide +kernel) (by decide +kernel) ⟨rfl, rfl, rfl, rfl, rfl, by decide +kernel⟩ ?hw ?hc
  case hw => w_witness2
  case hc =>
    refine L2.walk_ofE (l := PySem.Challenge.rw_stayprice_k02_nights_of) (n := 63) (k := 2) (x := "_law_script") (CX := L2.CX0) rfl (by decide) (by kernel_rfl) ⟨rfl, by decide, by decide⟩ ?F (fun _ _ _ _ z => z)
    intro w mg fa h Y G hmg0
    obtain ⟨K, KX, c⟩ := Y
    have hmg : mg ("law" : PySem.Str) = some (.ref fa) := by
      have e : (HandSHeadRun.topDef (OpenLaw.row PySem.Challenge.rw_stayprice_k02_nights_of).prog 5).name = ("law" : PySem.Str) := by kernel_rfl
      rw [← e]
      exact hmg0
    obtain ⟨fd, hb, hF⟩ := Y.facts (P := (PySem.Challenge.rw_stayprice_k02_nights_of).prog) (w := w) KX G hmg c
    exact ⟨K, fd, Y.sp_law K, KX, hb, fun H a ns hl _ hS => ⟨_, rfl, a, ns, rfl, hS, hl, fun _ => rfl⟩, hF⟩
