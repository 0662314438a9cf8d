import PyProof.Rows.All
import Wide.All
import OpenK.AllK
import Wide.FinOn
import KE.KStateDown
import HandS.ForMost
import HandS.ForExc
import HandS.Wide
import HandS.Conv
import HandS.IsInst
import HandS.Defaults
import HandS.Codes
import HandS.Flow
import HandS.SetFor
import PyProof.EqLayable
import HandS.SortRule
import HandS.Walk
import HandS.Head0
import HandS.Head1
import HandS.Head2
import HandS.HeadEnd
import HandS.HeadHook1
import HandS.HeadHook2
import HandS.HeadHook3
import HandS.HeadHook4
import PySem.Challenge.RW_stayprice_k31_marked
set_option Elab.async false
set_option linter.all false
set_option maxRecDepth 100000
set_option maxHeartbeats 4000000
/-! Y0: short names of readings; promises by their number of arguments; heaps that grow; steps of a reading. -/
namespace Y
open PySem PySem.Spec PyProof.Rows L2

/-- nothing stands at p -/
def Fr (H : Hp) (p : Addr) : Prop := H p = none
/-! ### short names for the readings of operators and built-ins -/
abbrev rAdd : R2 := rI0 fun i j => .int (i + j)
abbrev rSub : R2 := rI0 fun i j => .int (i - j)
abbrev rMul : R2 := rI CMul fun i j => .int (i * j)
abbrev rPow : R2 := rI CPow fun i j => .int (i ^ j.toNat)
abbrev rMod : R2 := rI (fun _ j => 0 < j) fun i j => .int (i % j)
abbrev rDivW : R2 := rI CDivW fun i j => .int (i / j)
abbrev rLt : R2 := rI0 fun i j => .bl (decide (i < j))
abbrev rLe : R2 := rI0 fun i j => .bl (decide (i ≤ j))
abbrev rGt : R2 := rI0 fun i j => .bl (decide (j < i))
abbrev rGe : R2 := rI0 fun i j => .bl (decide (j ≤ i))
abbrev rIsN : R2 := fun x y H Q => y = .non ∧ Q (.bl (decide (x = .non))) H
abbrev rNotN : R2 := fun x y H Q => y = .non ∧ Q (.bl (!decide (x = .non))) H
abbrev rAddS : R2 := fun x y H Q => ∃ i j, x = .str i ∧ y = .str j ∧ i.length + j.length ≤ sizeLine ∧ Q (.str (i ++ j)) H
abbrev rNeg : V → Hp → VK → Prop := rU fun i => .int (-i)
abbrev rAbs : List V → Hp → VK → Prop := fun xs H Q => ∃ i, xs = [.int i] ∧ Q (.int (if i < 0 then -i else i)) H
abbrev rMax2 : List V → Hp → VK → Prop := fun xs H Q => ∃ i j, xs = [.int i, .int j] ∧ Q (.int (if j > i then j else i)) H
abbrev rMin2 : List V → Hp → VK → Prop := fun xs H Q => ∃ i j, xs = [.int i, .int j] ∧ Q (.int (if j < i then j else i)) H
abbrev rInt1 : List V → Hp → VK → Prop := fun xs H Q => (∃ i, xs = [.int i] ∧ Q (.int i) H) ∨ ∃ k, xs = [.bl k] ∧ Q (.int (if k then 1 else 0)) H
abbrev rLen (K : PySem.W.Frag) : List V → Hp → VK → Prop := fun xs H Q => ∃ p ys, xs = [.ref p] ∧ (SqL K H p ys ∨ SqT K H p ys) ∧ Q (.int ys.length) H
abbrev rLenS : List V → Hp → VK → Prop := fun xs H Q => ∃ z, xs = [.str z] ∧ z.length ≤ sizeLine ∧ Q (.int z.length) H
abbrev rLenA (K : PySem.W.Frag) : List V → Hp → VK → Prop := fun xs H Q => ∃ x n, xs = [x] ∧ LenV K x H n ∧ Q (.int n) H
abbrev rListOf (K : PySem.W.Frag) : List V → Hp → VK → Prop := fun xs H Q => ∃ p ys, xs = [.ref p] ∧ (SqL K H p ys ∨ SqT K H p ys) ∧ ∀ l, H l = none → Q (.ref l) (upd H l (.lst ys))
abbrev rTupOf (K : PySem.W.Frag) : List V → Hp → VK → Prop := fun xs H Q => ∃ p ys, xs = [.ref p] ∧ ((SqL K H p ys ∧ ∀ l, H l = none → Q (.ref l) (upd H l (.tup ys))) ∨ (SqT K H p ys ∧ Q (.ref p) H))
abbrev rInsert : V → List V → Hp → VK → Prop := fun x vs H Q => ∃ (l : Addr) (xs : List V) (i : Int) (y : V), x = .ref l ∧ vs = [.int i, y] ∧ H l = some (.lst xs) ∧ xs.length < sizeLine ∧ 0 ≤ i ∧ i < 2 ^ 63 ∧ Q .non (upd H l (.lst (xs.take i.toNat ++ y :: xs.drop i.toNat)))
abbrev tTruth (K : PySem.W.Frag) (ta : TE) : TT := fun σ H Q => ta σ H fun x H1 => ∃ k, TruV K x H1 k ∧ Q k H1

/-! ### steps by what the reading is -/
section
variable {K : PySem.W.Frag} {σ : L2.St} {H : Hp} {Q : VK} {x y v : V} {i j : Int} {p : Addr} {xs : List V}
theorem g_c (q : Q v H) : tC v σ H Q := q
theorem g_op {r : R2} {ta tb : TE} (q : ta σ H fun x H1 => tb σ H1 fun y H2 => r x y H2 Q) : tOp r ta tb σ H Q := q
theorem g_un {r : V → Hp → VK → Prop} {ta : TE} (q : ta σ H fun x H1 => r x H1 Q) : tUn r ta σ H Q := q
theorem g_chain {r r' : R2} {ta tb tc : TE} (q : ta σ H fun x H1 => tb σ H1 fun y H2 => r x y H2 fun z H3 => ∃ k, z = .bl k ∧ (if k = true then tc σ H3 fun w' H4 => r' y w' H4 Q else Q (.bl false) H3)) : tChain r r' ta tb tc σ H Q := q
theorem g_tB {t : TE} {Q : Bool → Hp → Prop} (h : t σ H fun x H' => ∃ k, x = .bl k ∧ Q k H') : tB t σ H Q := h
theorem g_truth {ta : TE} {Q : Bool → Hp → Prop} (h : ta σ H fun x H1 => ∃ k, TruV K x H1 k ∧ Q k H1) : tTruth K ta σ H Q := h
theorem g_and {t u : TT} {Q : Bool → Hp → Prop} (h : t σ H fun c H1 => if c = true then u σ H1 Q else Q false H1) : tAnd t u σ H Q := h
theorem g_or {t u : TT} {Q : Bool → Hp → Prop} (h : t σ H fun c H1 => if c = true then Q true H1 else u σ H1 Q) : tOr t u σ H Q := h
theorem g_not {t : TT} {Q : Bool → Hp → Prop} (h : t σ H fun c H1 => Q (!c) H1) : tNot t σ H Q := h
theorem g_andV {ta tb : TE} (h : ta σ H fun x H1 => ∃ c, x = .bl c ∧ if c = true then tb σ H1 Q else Q (.bl false) H1) : tAndV ta tb σ H Q := h
theorem g_orV {ta tb : TE} (h : ta σ H fun x H1 => ∃ c, x = .bl c ∧ if c = true then Q (.bl true) H1 else tb σ H1 Q) : tOrV ta tb σ H Q := h
theorem g_notV {ta : TE} (h : ta σ H fun x H1 => ∃ c, x = .bl c ∧ Q (.bl (!c)) H1) : tNotV ta σ H Q := h
theorem g_if {t : TT} {ta tb : TE} (h : t σ H fun c H1 => if c = true then ta σ H1 Q else tb σ H1 Q) : tIf t ta tb σ H Q := h
theorem g_nil {Q : List V → Hp → Prop} (h : Q [] H) : tNil σ H Q := h
theorem g_cons {ta : TE} {tr : TA} {Q : List V → Hp → Prop} (h : ta σ H fun x H1 => tr σ H1 fun xs H2 => Q (x :: xs) H2) : tCons ta tr σ H Q := h
theorem g_tTup {t : TA} (h : t σ H fun xs H1 => xs.length ≤ sizeLine ∧ ∀ p, Fr H1 p → Q (.ref p) (upd H1 p (.tup xs))) : tTup t σ H Q := h
theorem g_tLst {t : TA} (h : t σ H fun xs H1 => xs.length ≤ sizeLine ∧ ∀ p, Fr H1 p → Q (.ref p) (upd H1 p (.lst xs))) : tLst t σ H Q := h
theorem g_cb {r : List V → Hp → VK → Prop} {t : TA} (h : t σ H fun vs H1 => r vs H1 Q) : tCB r t σ H Q := h
theorem g_call {sp : Sp} {dvs : List V} {E : XK} {t : TA} (h : t σ H fun vs H1 => sp (vs ++ dvs) H1 Q E) : tCall sp dvs E t σ H Q := h
theorem g_sl {r : V → Option Int → Option Int → Hp → VK → Prop} {te : TE} {tl th : TO} (h : te σ H fun x H1 => tl σ H1 fun l H2 => th σ H2 fun u H3 => r x l u H3 Q) : tSl r te tl th σ H Q := h
theorem g_wipe {a b : L2.St} {R : Prop} (h : a = b) (r : R) : a = b ∧ R := ⟨h, r⟩
theorem g_np {Q : Option Int → Hp → Prop} (h : Q none H) : tNoPart σ H Q := h
theorem g_pt {t : TE} {Q : Option Int → Hp → Prop} (h : t σ H fun x H1 => ∃ i, x = .int i ∧ Q (some i) H1) : tPart t σ H Q := h
theorem g_exI {R : Int → Prop} (q : R i) : ∃ i', V.int i = .int i' ∧ R i' := ⟨i, rfl, q⟩
theorem g_bm {T : String} {r : V → List V → Hp → VK → Prop} {to : TE} {t : TA} (h : to σ H fun x H1 => tyV K T x H1 ∧ t σ H1 fun xs H2 => r x xs H2 Q) : tBM K T r to t σ H Q := h
theorem g_bm0 {T : String} {r : V → List V → Hp → VK → Prop} {to : TE} (h : to σ H fun x H1 => tyV K T x H1 ∧ r x [] H1 Q) : tBM0 K T r to σ H Q := h
theorem g_tyL {R : Prop} (h : SqL K H p xs) (q : R) : tyV K "list" (.ref p) H ∧ R := ⟨.inl ⟨rfl, _, h⟩, q⟩
theorem g_yes {Q : Bool → Hp → Prop} (h : Q true H) : tYes σ H Q := h
theorem g_seq {t u : TS} {D : Ends} (h : t { D with nx := u D } σ H) : tSeq t u D σ H := h
theorem g_asg {te : TE} {g : TG} {D : Ends} (h : te σ H fun x H1 => g x σ H1 D.nx) : tAsg te g D σ H := h
theorem g_name {n : Nat} {Q : L2.St → Hp → Prop} (h : Q (σ.set n (some v)) H) : gName n v σ H Q := h
theorem g_sub {to ti : TE} {t : TSet} {Q : L2.St → Hp → Prop} (h : to σ H fun o H1 => ti σ H1 fun i H2 => t o i v H2 fun H3 => Q σ H3) : gSub to ti t v σ H Q := h
theorem g_gtup {n : Nat} {t : TGs} {Q : L2.St → Hp → Prop} (h : SqT K H p xs) (l : xs.length = n) (q : t xs σ H Q) : gTup K n t (.ref p) σ H Q := ⟨p, xs, rfl, h, l, q⟩
theorem g_gcons {t : TG} {u : TGs} {Q : L2.St → Hp → Prop} (h : t x σ H fun σ' H' => u xs σ' H' Q) : gCons t u (x :: xs) σ H Q := ⟨x, xs, rfl, h⟩
theorem g_gnil {Q : L2.St → Hp → Prop} (h : Q σ H) : gNil [] σ H Q := ⟨rfl, h⟩
theorem g_seqA {te : TE} {g : TG} {u : TS} {D : Ends} (h : tAsg te g { D with nx := u D } σ H) : tSeq (tAsg te g) u D σ H := h
theorem g_seqR {c : TT} {te : TE} {v u : TS} {D : Ends} (h : tIfS c (tRet te) v { D with nx := u D } σ H) : tSeq (tIfS c (tRet te) v) u D σ H := h
theorem g_seqD {te : TE} {u : TS} {D : Ends} (h : tDrop te { D with nx := u D } σ H) : tSeq (tDrop te) u D σ H := h
theorem g_seqF {wi : TI} {g : TG} {b u : TS} {D : Ends} (h : tFor wi g b { D with nx := u D } σ H) : tSeq (tFor wi g b) u D σ H := h
theorem g_seqW {c : TT} {b u : TS} {D : Ends} (h : tWhile c b { D with nx := u D } σ H) : tSeq (tWhile c b) u D σ H := h
theorem g_seqP {n m : Nat} {ta : TA} {u : TS} {D : Ends} (h : tPar n m ta { D with nx := u D } σ H) : tSeq (tPar n m ta) u D σ H := h
theorem g_ifS {c : TT} {t u : TS} {D : Ends} (h : c σ H fun b H1 => if b = true then t D σ H1 else u D σ H1) : tIfS c t u D σ H := h
theorem g_ret {te : TE} {D : Ends} (h : te σ H D.rt) : tRet te D σ H := h
theorem g_drop {te : TE} {D : Ends} (h : te σ H fun _ H1 => D.nx σ H1) : tDrop te D σ H := h
theorem g_next {D : Ends} (h : D.nx σ H) : tNext D σ H := h
theorem g_par {ta : TA} {n m : Nat} {D : Ends} (h : ta σ H fun vs H1 => ∃ v w, vs = [v, w] ∧ D.nx ((σ.set n (some v)).set m (some w)) H1) : tPar n m ta D σ H := h
theorem g_lstRg {te : L2.St → Hp → (Int → Int → Hp → Prop) → Prop} (h : te σ H fun a b H1 => RgOk a b ∧ ∀ q, Fr H1 q → Q (.ref q) (upd H1 q (.lst (rgV a b)))) : tLstRg te σ H Q := h
theorem g_rg2 {ta tb : TE} {Q : Int → Int → Hp → Prop} (h : ta σ H fun x H1 => tb σ H1 fun y H2 => ∃ i j, x = .int i ∧ y = .int j ∧ Q i j H2) : tRg2 ta tb σ H Q := h
theorem g_rg1 {ta : TE} {Q : Int → Int → Hp → Prop} (h : ta σ H fun x H1 => ∃ n, x = .int n ∧ Q 0 n H1) : tRg1 ta σ H Q := h
theorem g_exII {R : Int → Int → Prop} (q : R i j) : ∃ i' j', V.int i = .int i' ∧ V.int j = .int j' ∧ R i' j' := ⟨i, j, rfl, rfl, q⟩
theorem g_rng1 {ta : TA} {R : It → Hp → Prop} (h : ta σ H fun vs H1 => ∃ j : Int, vs = [.int j] ∧ -(2 ^ 62) ≤ j ∧ j < 2 ^ 62 ∧ R (Itr 0 j.toNat) H1) : iRng1 ta σ H R := h
theorem g_rng1b {R : Int → Prop} (a : -(2 ^ 62) ≤ i) (b : i < 2 ^ 62) (q : R i) : ∃ j : Int, [V.int i] = [.int j] ∧ -(2 ^ 62) ≤ j ∧ j < 2 ^ 62 ∧ R j := ⟨i, rfl, a, b, q⟩
theorem g_rng2 {ta : TA} {R : It → Hp → Prop} (h : ta σ H fun vs H1 => ∃ i j : Int, vs = [.int i, .int j] ∧ (-(2 ^ 62) ≤ i ∧ i < 2 ^ 62 ∧ -(2 ^ 62) ≤ j ∧ j < 2 ^ 62) ∧ R (Itr i (j - i).toNat) H1) : iRng2 ta σ H R := h
theorem g_rng2b {R : Int → Int → Prop} (a : -(2 ^ 62) ≤ i ∧ i < 2 ^ 62 ∧ -(2 ^ 62) ≤ j ∧ j < 2 ^ 62) (q : R i j) : ∃ i' j' : Int, [V.int i, V.int j] = [.int i', .int j'] ∧ (-(2 ^ 62) ≤ i' ∧ i' < 2 ^ 62 ∧ -(2 ^ 62) ≤ j' ∧ j' < 2 ^ 62) ∧ R i' j' := ⟨i, j, rfl, a, q⟩
theorem g_iList {tl : TE} {R : It → Hp → Prop} (h : tl σ H fun x H1 => ∃ a, x = .ref a ∧ (∃ xs, SqL K H1 a xs) ∧ R (Itl K a) H1) : iList K tl σ H R := h
theorem g_iListb {R : Addr → Prop} (h : SqL K H p xs) (q : R p) : ∃ a, V.ref p = .ref a ∧ (∃ xs, SqL K H a xs) ∧ R a := ⟨p, rfl, ⟨xs, h⟩, q⟩
theorem g_iTup {tl : TE} {R : It → Hp → Prop} (h : tl σ H fun x H1 => ∃ a, x = .ref a ∧ (∃ xs, SqT K H1 a xs) ∧ R (Itt K a) H1) : iTup K tl σ H R := h
theorem g_iTupb {R : Addr → Prop} (h : SqT K H p xs) (q : R p) : ∃ a, V.ref p = .ref a ∧ (∃ xs, SqT K H a xs) ∧ R a := ⟨p, rfl, ⟨xs, h⟩, q⟩
theorem g_for {wi : TI} {g : TG} {tb : TS} {D : Ends} (h : wi σ H fun J H1 => ∃ W : Nat → Nat → L2.St → Hp → Prop, (∃ m, W 0 m σ H1) ∧ ∀ i m σ H, W i m σ H →
  (J.stop i H ∧ D.nx σ H) ∨ (J.go i H ∧ ∃ N : L2.St → Hp → Prop, (∀ σ' H', N σ' H' → ∃ m', m' < m ∧ W (i + 1) m' σ' H') ∧ ∀ x H', J.yld i H x H' → g x σ H' fun σ2 H2 => tb { D with nx := N, ct := N, bk := D.nx } σ2 H2)) : tFor wi g tb D σ H := h
theorem g_lc {wi : TI} {g : TG} {tt : TT} {te : TE} {vs : List Nat} (h : wi σ H fun J H1 => ∀ D, Fr H1 D → ∃ W : Nat → Nat → Hp → Prop, (∃ m, W 0 m (upd H1 D (.lst []))) ∧ ∀ i m H, W i m H →
  (J.stop i H ∧ Q (.ref D) H) ∨ (J.go i H ∧ ∃ Nx : Hp → Prop, (∀ H', Nx H' → ∃ m', m' < m ∧ W (i + 1) m' H') ∧ ∀ x H', J.yld i H x H' → g x (wipe σ vs) H' fun σ2 H2 => wipe σ2 vs = wipe σ vs ∧ tt σ2 H2 fun b H3 =>
    if b = true then te σ2 H3 fun y H4 => ∃ acc, H4 D = some (.lst acc) ∧ acc.length < sizeLine ∧ Nx (upd H4 D (.lst (acc ++ [y]))) else Nx H3)) : tLc wi g tt te vs σ H Q := h
theorem g_var {n : Nat} (h : σ[n]? = some (some v)) (q : Q v H) : tVar n σ H Q := ⟨v, h, q⟩
theorem g_rI0 {g : Int → Int → V} (q : Q (g i j) H) : rI0 g (.int i) (.int j) H Q := ⟨i, j, rfl, rfl, q⟩
theorem g_rI {C : Int → Int → Prop} {g : Int → Int → V} (c : C i j) (q : Q (g i j) H) : rI C g (.int i) (.int j) H Q := ⟨i, j, rfl, rfl, c, q⟩
theorem g_pow6 (q : Q (.int 1000000) H) : rPow (.int 10) (.int 6) H Q := ⟨10, 6, rfl, rfl, ⟨by decide, by decide, by decide⟩, q⟩
theorem g_pow9 (q : Q (.int 1000000000) H) : rPow (.int 10) (.int 9) H Q := ⟨10, 9, rfl, rfl, ⟨by decide, by decide, by decide⟩, q⟩
theorem g_pow12 (q : Q (.int 1000000000000) H) : rPow (.int 10) (.int 12) H Q := ⟨10, 12, rfl, rfl, ⟨by decide, by decide, by decide⟩, q⟩
theorem g_pow18 (q : Q (.int 1000000000000000000) H) : rPow (.int 10) (.int 18) H Q := ⟨10, 18, rfl, rfl, ⟨by decide, by decide, by decide⟩, q⟩
theorem g_pow60 (q : Q (.int 1000000000000000000000000000000000000000000000000000000000000) H) : rPow (.int 10) (.int 60) H Q := ⟨10, 60, rfl, rfl, ⟨by decide, by decide, by decide⟩, q⟩
theorem g_eq (c : scal x y = true) (q : Q (.bl (decide (x = y))) H) : rEq x y H Q := ⟨c, q⟩
theorem g_ne (c : scal x y = true) (q : Q (.bl (!decide (x = y))) H) : rNe x y H Q := ⟨c, q⟩
theorem g_ixL (h : SqL K H p xs) (a : atI xs i = some v) (q : Q v H) : rIxL K (.ref p) (.int i) H Q := ⟨p, xs, i, v, rfl, rfl, h, a, q⟩
theorem g_ixT (h : SqT K H p xs) (a : atI xs i = some v) (q : Q v H) : rIxT K (.ref p) (.int i) H Q := ⟨p, xs, i, v, rfl, rfl, h, a, q⟩
theorem g_setL {Q : Hp → Prop} {n : Nat} (h : H p = some (.lst xs)) (a : ixN xs.length i = some n) (q : Q (upd H p (.lst (xs.set n v)))) : rSetL (.ref p) (.int i) v H Q := ⟨p, xs, i, n, rfl, rfl, h, a, q⟩
theorem g_len (h : SqL K H p xs ∨ SqT K H p xs) (q : Q (.int xs.length) H) : rLen K [.ref p] H Q := ⟨p, xs, rfl, h, q⟩
theorem g_test {t : TE} {Q : Bool → Hp → Prop} (h : t σ H fun x H' => ∃ k, x = .bl k ∧ Q k H') : tTest t σ H Q := h
theorem g_bl {R : Bool → Prop} {k : Bool} (q : R k) : ∃ k', V.bl k = .bl k' ∧ R k' := ⟨k, rfl, q⟩
theorem g_sz {n : Nat} {R : Prop} (z : n ≤ sizeLine) (q : R) : n ≤ sizeLine ∧ R := ⟨z, q⟩
theorem g_slL {lo hi : Option Int} (h : SqL K H p xs) (q : ∀ a, Fr H a → Q (.ref a) (upd H a (.lst (cutV xs lo hi)))) : rSlL K (.ref p) lo hi H Q := ⟨p, xs, rfl, h, q⟩
theorem g_slT {lo hi : Option Int} (h : SqT K H p xs) (w : ¬ (HT.sIx xs.length 0 lo = 0 ∧ HT.sIx xs.length xs.length hi = xs.length)) (q : ∀ a, Fr H a → Q (.ref a) (upd H a (.tup (cutV xs lo hi)))) : rSlT K (.ref p) lo hi H Q := ⟨p, xs, rfl, h, w, q⟩
theorem g_listOf (h : SqL K H p xs ∨ SqT K H p xs) (q : ∀ a, Fr H a → Q (.ref a) (upd H a (.lst xs))) : rListOf K [.ref p] H Q := ⟨p, xs, rfl, h, q⟩
theorem g_append (h : H p = some (.lst xs)) (z : xs.length < sizeLine) (q : Q .non (upd H p (.lst (xs ++ [y])))) : rAppend (.ref p) [y] H Q := ⟨p, xs, y, rfl, rfl, h, z, q⟩
theorem g_popAt {n : Nat} (h : H p = some (.lst xs)) (b1 : -(2 ^ 63) ≤ i) (b2 : i < 2 ^ 63) (s : seqIndex? i xs.length = some n) (a : xs[n]? = some v) (q : Q v (upd H p (.lst (xs.eraseIdx n)))) : rPopAt (.ref p) [.int i] H Q := ⟨p, xs, i, n, v, rfl, rfl, h, b1, b2, s, a, q⟩
theorem g_isN (q : Q (.bl (decide (x = .non))) H) : rIsN x .non H Q := ⟨rfl, q⟩
theorem g_notN (q : Q (.bl (!decide (x = .non))) H) : rNotN x .non H Q := ⟨rfl, q⟩
theorem g_abs (q : Q (.int (if i < 0 then -i else i)) H) : rAbs [.int i] H Q := ⟨i, rfl, q⟩
theorem g_neg (q : Q (.int (-i)) H) : rNeg (.int i) H Q := ⟨i, rfl, q⟩
theorem g_max2 (q : Q (.int (if j > i then j else i)) H) : rMax2 [.int i, .int j] H Q := ⟨i, j, rfl, q⟩
theorem g_min2 (q : Q (.int (if j < i then j else i)) H) : rMin2 [.int i, .int j] H Q := ⟨i, j, rfl, q⟩
end
section
variable {K : PySem.W.Frag} {H : Hp} {Q : VK} {i : Int} {p : Addr} {xs : List V}
theorem g_isi_int_int  (q : Q (.bl true) H) : rIsi K [.int i, .ty "int"] H Q := ⟨_, _, .type "int", .type "int", true, rfl, .ty _, .base (.int i), kit_ty (by decide +kernel), q⟩
theorem g_isi_int_bool  (q : Q (.bl false) H) : rIsi K [.int i, .ty "bool"] H Q := ⟨_, _, .type "int", .type "bool", false, rfl, .ty _, .base (.int i), kit_ty (by decide +kernel), q⟩
theorem g_isi_int_str  (q : Q (.bl false) H) : rIsi K [.int i, .ty "str"] H Q := ⟨_, _, .type "int", .type "str", false, rfl, .ty _, .base (.int i), kit_ty (by decide +kernel), q⟩
theorem g_isi_int_list  (q : Q (.bl false) H) : rIsi K [.int i, .ty "list"] H Q := ⟨_, _, .type "int", .type "list", false, rfl, .ty _, .base (.int i), kit_ty (by decide +kernel), q⟩
theorem g_isi_int_tuple  (q : Q (.bl false) H) : rIsi K [.int i, .ty "tuple"] H Q := ⟨_, _, .type "int", .type "tuple", false, rfl, .ty _, .base (.int i), kit_ty (by decide +kernel), q⟩
theorem g_isi_bl_int {k : Bool} (q : Q (.bl true) H) : rIsi K [.bl k, .ty "int"] H Q := ⟨_, _, .type "bool", .type "int", true, rfl, .ty _, .base (.bl k), kit_ty (by decide +kernel), q⟩
theorem g_isi_bl_bool {k : Bool} (q : Q (.bl true) H) : rIsi K [.bl k, .ty "bool"] H Q := ⟨_, _, .type "bool", .type "bool", true, rfl, .ty _, .base (.bl k), kit_ty (by decide +kernel), q⟩
theorem g_isi_bl_str {k : Bool} (q : Q (.bl false) H) : rIsi K [.bl k, .ty "str"] H Q := ⟨_, _, .type "bool", .type "str", false, rfl, .ty _, .base (.bl k), kit_ty (by decide +kernel), q⟩
theorem g_isi_bl_list {k : Bool} (q : Q (.bl false) H) : rIsi K [.bl k, .ty "list"] H Q := ⟨_, _, .type "bool", .type "list", false, rfl, .ty _, .base (.bl k), kit_ty (by decide +kernel), q⟩
theorem g_isi_bl_tuple {k : Bool} (q : Q (.bl false) H) : rIsi K [.bl k, .ty "tuple"] H Q := ⟨_, _, .type "bool", .type "tuple", false, rfl, .ty _, .base (.bl k), kit_ty (by decide +kernel), q⟩
theorem g_isi_str_int {z : Str} (q : Q (.bl false) H) : rIsi K [.str z, .ty "int"] H Q := ⟨_, _, .type "str", .type "int", false, rfl, .ty _, .base (.str z), kit_ty (by decide +kernel), q⟩
theorem g_isi_str_bool {z : Str} (q : Q (.bl false) H) : rIsi K [.str z, .ty "bool"] H Q := ⟨_, _, .type "str", .type "bool", false, rfl, .ty _, .base (.str z), kit_ty (by decide +kernel), q⟩
theorem g_isi_str_str {z : Str} (q : Q (.bl true) H) : rIsi K [.str z, .ty "str"] H Q := ⟨_, _, .type "str", .type "str", true, rfl, .ty _, .base (.str z), kit_ty (by decide +kernel), q⟩
theorem g_isi_str_list {z : Str} (q : Q (.bl false) H) : rIsi K [.str z, .ty "list"] H Q := ⟨_, _, .type "str", .type "list", false, rfl, .ty _, .base (.str z), kit_ty (by decide +kernel), q⟩
theorem g_isi_str_tuple {z : Str} (q : Q (.bl false) H) : rIsi K [.str z, .ty "tuple"] H Q := ⟨_, _, .type "str", .type "tuple", false, rfl, .ty _, .base (.str z), kit_ty (by decide +kernel), q⟩
theorem g_isi_non_int  (q : Q (.bl false) H) : rIsi K [.non, .ty "int"] H Q := ⟨_, _, .type "NoneType", .type "int", false, rfl, .ty _, .base .non, kit_ty (by decide +kernel), q⟩
theorem g_isi_non_bool  (q : Q (.bl false) H) : rIsi K [.non, .ty "bool"] H Q := ⟨_, _, .type "NoneType", .type "bool", false, rfl, .ty _, .base .non, kit_ty (by decide +kernel), q⟩
theorem g_isi_non_str  (q : Q (.bl false) H) : rIsi K [.non, .ty "str"] H Q := ⟨_, _, .type "NoneType", .type "str", false, rfl, .ty _, .base .non, kit_ty (by decide +kernel), q⟩
theorem g_isi_non_list  (q : Q (.bl false) H) : rIsi K [.non, .ty "list"] H Q := ⟨_, _, .type "NoneType", .type "list", false, rfl, .ty _, .base .non, kit_ty (by decide +kernel), q⟩
theorem g_isi_non_tuple  (q : Q (.bl false) H) : rIsi K [.non, .ty "tuple"] H Q := ⟨_, _, .type "NoneType", .type "tuple", false, rfl, .ty _, .base .non, kit_ty (by decide +kernel), q⟩
theorem g_isi_lst_int (h : H p = some (.lst xs)) (q : Q (.bl false) H) : rIsi K [.ref p, .ty "int"] H Q := ⟨_, _, .type "list", .type "int", false, rfl, .ty _, .base (.lst h), kit_ty (by decide +kernel), q⟩
theorem g_isi_lst_bool (h : H p = some (.lst xs)) (q : Q (.bl false) H) : rIsi K [.ref p, .ty "bool"] H Q := ⟨_, _, .type "list", .type "bool", false, rfl, .ty _, .base (.lst h), kit_ty (by decide +kernel), q⟩
theorem g_isi_lst_str (h : H p = some (.lst xs)) (q : Q (.bl false) H) : rIsi K [.ref p, .ty "str"] H Q := ⟨_, _, .type "list", .type "str", false, rfl, .ty _, .base (.lst h), kit_ty (by decide +kernel), q⟩
theorem g_isi_lst_list (h : H p = some (.lst xs)) (q : Q (.bl true) H) : rIsi K [.ref p, .ty "list"] H Q := ⟨_, _, .type "list", .type "list", true, rfl, .ty _, .base (.lst h), kit_ty (by decide +kernel), q⟩
theorem g_isi_lst_tuple (h : H p = some (.lst xs)) (q : Q (.bl false) H) : rIsi K [.ref p, .ty "tuple"] H Q := ⟨_, _, .type "list", .type "tuple", false, rfl, .ty _, .base (.lst h), kit_ty (by decide +kernel), q⟩
theorem g_isi_tup_int (h : H p = some (.tup xs)) (q : Q (.bl false) H) : rIsi K [.ref p, .ty "int"] H Q := ⟨_, _, .type "tuple", .type "int", false, rfl, .ty _, .base (.tup h), kit_ty (by decide +kernel), q⟩
theorem g_isi_tup_bool (h : H p = some (.tup xs)) (q : Q (.bl false) H) : rIsi K [.ref p, .ty "bool"] H Q := ⟨_, _, .type "tuple", .type "bool", false, rfl, .ty _, .base (.tup h), kit_ty (by decide +kernel), q⟩
theorem g_isi_tup_str (h : H p = some (.tup xs)) (q : Q (.bl false) H) : rIsi K [.ref p, .ty "str"] H Q := ⟨_, _, .type "tuple", .type "str", false, rfl, .ty _, .base (.tup h), kit_ty (by decide +kernel), q⟩
theorem g_isi_tup_list (h : H p = some (.tup xs)) (q : Q (.bl false) H) : rIsi K [.ref p, .ty "list"] H Q := ⟨_, _, .type "tuple", .type "list", false, rfl, .ty _, .base (.tup h), kit_ty (by decide +kernel), q⟩
theorem g_isi_tup_tuple (h : H p = some (.tup xs)) (q : Q (.bl true) H) : rIsi K [.ref p, .ty "tuple"] H Q := ⟨_, _, .type "tuple", .type "tuple", true, rfl, .ty _, .base (.tup h), kit_ty (by decide +kernel), q⟩
end
/-! ### promises by the number of arguments -/
abbrev Sp0 (p : Hp → VK → XK → Prop) : Sp := fun vs H Q E => vs = [] ∧ p H Q E
abbrev Sp1 (p : V → Hp → VK → XK → Prop) : Sp := fun vs H Q E => ∃ a, vs = [a] ∧ p a H Q E
abbrev Sp2 (p : V → V → Hp → VK → XK → Prop) : Sp := fun vs H Q E => ∃ a b, vs = [a, b] ∧ p a b H Q E
abbrev Sp3 (p : V → V → V → Hp → VK → XK → Prop) : Sp := fun vs H Q E => ∃ a b c, vs = [a, b, c] ∧ p a b c H Q E
abbrev Sp4 (p : V → V → V → V → Hp → VK → XK → Prop) : Sp := fun vs H Q E => ∃ a b c d, vs = [a, b, c, d] ∧ p a b c d H Q E
abbrev Sp5 (p : V → V → V → V → V → Hp → VK → XK → Prop) : Sp := fun vs H Q E => ∃ a b c d e, vs = [a, b, c, d, e] ∧ p a b c d e H Q E

/-! ### a def that may be called by its name, a class that may be made, a method -/
structure Cal (P : Program) (w : World) (K : PySem.W.Frag) (mg : Str → Option Value) (base : Heap) (CX : CXT) (k : Nat) (x : Str) (sp : Sp) (dvs : List V) : Prop where
  ex : ∃ (f : Addr) (fd : FuncData) (ps : List Str) (ds : List Value), FnOk P w K mg base CX k f fd ps sp ∧ mg x = some (.ref f) ∧ PySem.W.keepIn K (.ref f) = true ∧ Binds K fd ps ds ∧ Vals dvs ds
structure Mak (P : Program) (w : World) (K : PySem.W.Frag) (mg : Str → Option Value) (base : Heap) (CX : CXT) (k : Nat) (x : Str) (C : Addr) (sp : Sp) (dvs : List V) : Prop where
  ex : ∃ (f : Addr) (fd : FuncData) (ps : List Str) (ds : List Value), Mk K C f ∧ FnOk P w K mg base CX k f fd ps sp ∧ mg x = some (.ref C) ∧ Binds K fd ps ds ∧ Vals dvs ds
structure Met (P : Program) (w : World) (K : PySem.W.Frag) (mg : Str → Option Value) (base : Heap) (CX : CXT) (k : Nat) (C : Addr) (m : Str) (sp : Sp) (dvs : List V) : Prop where
  ex : ∃ (f : Addr) (fd : FuncData) (ps : List Str) (ds : List Value), Cls K C ∧ Meth K C m f ∧ FnOk P w K mg base CX k f fd ps sp ∧ Binds K fd ps ds ∧ Vals dvs ds
section
variable {X : Cx} {CX : CXT} {E : XK} {k j : Nat} {C : Addr} {x m : Str} {sp : Sp} {dvs : List V} {p pos apos : Pos} {e o : Expr} {es : List Expr} {ta : TE} {t : TA}
theorem pe_c (c : Cal X.prog X.w X.K X.mg X.base CX k x sp dvs) (hr : Room j X.A) (hk : k ≤ j) (hg : Gl X x) (hx : Passes CX X E) (ha : PA X (e :: es) t)
    (hdb : (x == ("__debug__" : Str)) = false := by decide) (he : starEach (e :: es) X.env = (false, eval e X.env) :: starEach es X.env := by rfl) (hpl : (backTo pos (starEach es X.env)).any (·.1) = false := by rfl) :
    PE X (.Call (.Name x p) (e :: es) [] pos) (tCall sp dvs E t) := by
  obtain ⟨f, fd, ps, ds, F, hm, kp, b, d⟩ := c.ex
  exact pe_call F (hr.mono hk) hg hm kp b d hx ha hdb he hpl
theorem pe_k (c : Mak X.prog X.w X.K X.mg X.base CX k x C sp dvs) (hr : Room j X.A) (hk : k + 1 ≤ j) (hg : Gl X x) (hx : Passes CX X E) (ha : PA X (e :: es) t)
    (hdb : (x == ("__debug__" : Str)) = false := by decide) (he : starEach (e :: es) X.env = (false, eval e X.env) :: starEach es X.env := by rfl) (hpl : (backTo pos (starEach es X.env)).any (·.1) = false := by rfl) :
    PE X (.Call (.Name x p) (e :: es) [] pos) (tMake C sp dvs E t) := by
  obtain ⟨f, fd, ps, ds, M, F, hm, b, d⟩ := c.ex
  exact pe_make M F (hr.mono hk) hg hm b d hx ha hdb he hpl
theorem pe_k0 (c : Mak X.prog X.w X.K X.mg X.base CX k x C sp dvs) (hr : Room j X.A) (hk : k + 1 ≤ j) (hg : Gl X x) (hx : Passes CX X E) (hdb : (x == ("__debug__" : Str)) = false := by decide) :
    PE X (.Call (.Name x p) [] [] pos) (tMake C sp dvs E tNil) := by
  obtain ⟨f, fd, ps, ds, M, F, hm, b, d⟩ := c.ex
  exact pe_make0 M F (hr.mono hk) hg hm b d hx hdb
theorem pe_m {pl : Sem Bool} (c : Met X.prog X.w X.K X.mg X.base CX k C m sp dvs) (hr : Room j X.A) (hk : k ≤ j) (hx : Passes CX X E) (he : PE X o ta) (ha : PA X (e :: es) t)
    (hst : starEach (e :: es) X.env = (false, eval e X.env) :: starEach es X.env := by rfl) (hpl : (backTo pos (starEach es X.env)).any (·.1) = false := by rfl)
    (ht : eval (.Call (.Attribute o m apos) (e :: es) [] pos) X.env = (do
      let ov ← eval o X.env
      standAt apos.atName
      let (f, first) ← holding [ov] (getMethod ov m pl)
      callWith pos f first (backTo pos (starEach (e :: es) X.env)) (backToKw pos (keywordEach [] X.env))) := by rfl) :
    PE X (.Call (.Attribute o m apos) (e :: es) [] pos) (tMeth C m sp dvs E ta t) := by
  obtain ⟨f, fd, ps, ds, hc, hm, F, b, d⟩ := c.ex
  exact pe_meth (pl := pl) he hc hm F (hr.mono hk) b d hx ha hst hpl ht
theorem pe_m0 {pl : Sem Bool} (c : Met X.prog X.w X.K X.mg X.base CX k C m sp dvs) (hr : Room j X.A) (hk : k ≤ j) (hx : Passes CX X E) (he : PE X o ta)
    (ht : eval (.Call (.Attribute o m apos) [] [] pos) X.env = (do
      let ov ← eval o X.env
      standAt apos.atName
      let (f, first) ← holding [ov] (getMethod ov m pl)
      callWith pos f first (backTo pos (starEach [] X.env)) (backToKw pos (keywordEach [] X.env))) := by rfl) :
    PE X (.Call (.Attribute o m apos) [] [] pos) (tMeth C m sp dvs E ta tNil) := by
  obtain ⟨f, fd, ps, ds, hc, hm, F, b, d⟩ := c.ex
  exact pe_meth0 (pl := pl) he hc hm F (hr.mono hk) b d hx ht
end

/-! ### heaps: all but some places is kept -/
/-- all that stood stands, but what is at the places of L -/
def Kp (L : List Addr) (H H' : Hp) : Prop := ∀ a o, H a = some o → a ∉ L → H' a = some o
theorem Kp.refl (L : List Addr) (H : Hp) : Kp L H H := fun _ _ h _ => h
theorem Kp.trans {L : List Addr} {H H1 H2 : Hp} (a : Kp L H H1) (b : Kp L H1 H2) : Kp L H H2 := fun c o h n => b c o (a c o h n) n
theorem Kp.mono {L M : List Addr} {H H' : Hp} (a : Kp L H H') (h : ∀ x ∈ L, x ∈ M) : Kp M H H' := fun c o e n => a c o e fun z => n (h c z)
theorem Kp.same {H H' : Hp} (a : Kp [] H H') : Same H H' := fun c o e => a c o e (by simp)
theorem Same.kp {H H' : Hp} (a : Same H H') (L : List Addr) : Kp L H H' := fun c o e _ => a c o e
theorem same_new {H : Hp} {p : Addr} {o : HO} (h : Fr H p) : Same H (upd H p o) := fun b x e => by
  rw [upd_ne (ne_of_none e h)]
  exact e
theorem kp_upd {H : Hp} {p : Addr} {o : HO} {L : List Addr} (h : p ∈ L) : Kp L H (upd H p o) := fun b x e n => by
  rw [upd_ne fun z => n (by rw [z]; exact h)]
  exact e
theorem Kp.new {L : List Addr} {H H' : Hp} {p : Addr} {o : HO} (a : Kp L H H') (h : Fr H' p) : Kp L H (upd H' p o) := a.trans (Same.kp (same_new h) L)
theorem Kp.put {L : List Addr} {H H' : Hp} {p : Addr} {o : HO} (a : Kp L H H') (h : p ∈ L) : Kp L H (upd H' p o) := a.trans (kp_upd h)
/-- a place that H did not know may change -/
theorem Kp.own {L : List Addr} {H H' : Hp} {p : Addr} {o : HO} (a : Kp L H H') (h : Fr H p) : Kp L H (upd H' p o) := fun b x e n => by
  rw [upd_ne (ne_of_none e h)]
  exact a b x e n
theorem SqT.kp {K : PySem.W.Frag} {L : List Addr} {H H' : Hp} {a : Addr} {xs : List V} (k : Kp L H H') (n : a ∉ L) (h : SqT K H a xs) : SqT K H' a xs := by
  rcases h with (h | ⟨o, h⟩) | h
  · exact .inl (.inl (k _ _ h n))
  · exact .inl (.inr ⟨o, k _ _ h n⟩)
  · exact .inr h
theorem SqL.kp {K : PySem.W.Frag} {L : List Addr} {H H' : Hp} {a : Addr} {xs : List V} (k : Kp L H H') (n : a ∉ L) (h : SqL K H a xs) : SqL K H' a xs := by
  rcases h with (h | ⟨o, h⟩) | h
  · exact .inl (.inl (k _ _ h n))
  · exact .inl (.inr ⟨o, k _ _ h n⟩)
  · exact .inr h
theorem Same.seqT {K : PySem.W.Frag} {H H' : Hp} {a : Addr} {xs : List V} (e : Same H H') (h : SqT K H a xs) : SqT K H' a xs := SqT.kp (Same.kp e []) (by simp) h
theorem get_same {H H' : Hp} {p : Addr} {o : HO} (e : Same H H') (h : H p = some o) : H' p = some o := e p o h
theorem get_kp {L : List Addr} {H H' : Hp} {p : Addr} {o : HO} (e : Kp L H H') (h : H p = some o) (n : p ∉ L) : H' p = some o := e p o h n
theorem at_new {H : Hp} {p a : Addr} {o u : HO} (hp : Fr H p) (h : H a = some o) : upd H p u a = some o := by
  rw [upd_ne (ne_of_none h hp)]
  exact h
theorem at_ne {H : Hp} {p a : Addr} {o u : HO} (n : a ≠ p) (h : H a = some o) : upd H p u a = some o := by
  rw [upd_ne n]
  exact h
theorem ne_new {H : Hp} {p a : Addr} {o : HO} (hp : Fr H p) (h : H a = some o) : a ≠ p := ne_of_none h hp
theorem ne_new' {H : Hp} {p a : Addr} {o : HO} (hp : Fr H p) (h : H a = some o) : p ≠ a := (ne_of_none h hp).symm
theorem sm_new {H H' : Hp} {p : Addr} {o : HO} (hp : Fr H' p) (h : Same H H') : Same H (upd H' p o) := h.trans (same_new hp)
theorem sm_tr {H H1 H2 : Hp} (h : Same H1 H2) (e : Same H H1) : Same H H2 := e.trans h
theorem sm_own {H H' : Hp} {p : Addr} {o : HO} (hp : Fr H p) (h : Same H H') : Same H (upd H' p o) := fun b x e => at_ne (ne_of_none e hp) (h b x e)
theorem fr_of {H H' : Hp} {p : Addr} (h : Fr H' p) (e : Same H H') : Fr H p := e.free h
theorem sql_new {K : PySem.W.Frag} {H : Hp} {p a : Addr} {o : HO} {xs : List V} (hp : Fr H p) (h : SqL K H a xs) : SqL K (upd H p o) a xs := Same.seq (same_new hp) h
theorem sql_same {K : PySem.W.Frag} {H H' : Hp} {a : Addr} {xs : List V} (e : Same H H') (h : SqL K H a xs) : SqL K H' a xs := Same.seq e h
theorem sqt_new {K : PySem.W.Frag} {H : Hp} {p a : Addr} {o : HO} {xs : List V} (hp : Fr H p) (h : SqT K H a xs) : SqT K (upd H p o) a xs := Same.seqT (same_new hp) h
theorem sqt_same {K : PySem.W.Frag} {H H' : Hp} {a : Addr} {xs : List V} (e : Same H H') (h : SqT K H a xs) : SqT K H' a xs := Same.seqT e h
theorem sq_or {K : PySem.W.Frag} {H : Hp} {p : Addr} {xs : List V} (h : H p = some (.lst xs)) : SqL K H p xs ∨ SqT K H p xs := .inl (SqL.of h)
theorem sq_orT {K : PySem.W.Frag} {H : Hp} {p : Addr} {xs : List V} (h : H p = some (.tup xs)) : SqL K H p xs ∨ SqT K H p xs := .inr (SqT.of h)
theorem atI_map {xs : List Int} {i : Int} {v : Int} (h : atI xs i = some v) : atI (xs.map V.int) i = some (V.int v) := by
  obtain ⟨j, h1, h2, h3, h4, h5⟩ := atI_get h
  unfold atI at h ⊢
  rw [List.length_map]
  cases e : ixN xs.length i with
  | none => rw [e] at h; cases h
  | some j =>
    rw [e] at h
    have h' : xs[j]? = some v := h
    show (xs.map V.int)[j]? = _
    rw [List.getElem?_map, h']
    rfl
theorem atI_zero {x : V} {r : List V} : atI (x :: r) 0 = some x := by
  have h : (x :: r)[0]? = some x := rfl
  exact atI_nat (j := 0) h
theorem ite_t {c : Bool} {A B : Prop} (h : c = true) (x : A) : if c = true then A else B := by
  rw [if_pos h]
  exact x
theorem ite_f {c : Bool} {A B : Prop} (h : c = false) (x : B) : if c = true then A else B := by
  rw [h, if_neg Bool.false_ne_true]
  exact x
theorem ite_dt {p : Prop} [Decidable p] {A B : Prop} (h : p) (x : A) : if decide p = true then A else B := ite_t (decide_eq_true h) x
theorem ite_df {p : Prop} [Decidable p] {A B : Prop} (h : ¬ p) (x : B) : if decide p = true then A else B := ite_f (decide_eq_false h) x
theorem ite_b {c : Bool} {A B : Prop} (h1 : c = true → A) (h2 : c = false → B) : if c = true then A else B := by
  cases c with
  | true => rw [if_pos rfl]; exact h1 rfl
  | false => rw [if_neg Bool.false_ne_true]; exact h2 rfl
theorem ite_d {p : Prop} [Decidable p] {A B : Prop} (h1 : p → A) (h2 : ¬ p → B) : if decide p = true then A else B := ite_b (fun h => h1 (of_decide_eq_true h)) fun h => h2 (of_decide_eq_false h)
theorem ite_nt {A B : Prop} (x : B) : if (!true) = true then A else B := ite_f rfl x
theorem ite_nf {A B : Prop} (x : A) : if (!false) = true then A else B := ite_t rfl x
theorem ite_nd {p : Prop} [Decidable p] {A B : Prop} (h1 : p → B) (h2 : ¬ p → A) : if (!decide p) = true then A else B := ite_b (fun h => h2 (by simpa using h)) fun h => h1 (by simpa using h)
theorem ite_ndt {p : Prop} [Decidable p] {A B : Prop} (h : p) (x : B) : if (!decide p) = true then A else B := ite_f (by simpa using h) x
theorem ite_ndf {p : Prop} [Decidable p] {A B : Prop} (h : ¬ p) (x : A) : if (!decide p) = true then A else B := ite_t (by simpa using h) x
theorem int_eq {i j : Int} : decide (V.int i = V.int j) = decide (i = j) := by
  by_cases h : i = j
  · subst h; simp
  · simp [h]
theorem str_eq {i j : Str} : decide (V.str i = V.str j) = decide (i = j) := by
  by_cases h : i = j
  · subst h; simp
  · simp [h]
theorem bl_eq {i j : Bool} : decide (V.bl i = V.bl j) = decide (i = j) := by
  by_cases h : i = j
  · subst h; simp
  · simp [h]
theorem map_get {α : Type} {f : α → V} {ns : List α} {i : Nat} {y : V} (h : (ns.map f)[i]? = some y) : ∃ z, y = f z ∧ ns[i]? = some z := by
  rw [List.getElem?_map] at h
  cases e : ns[i]? with
  | none => rw [e] at h; cases h
  | some z => rw [e] at h; exact ⟨z, (Option.some.inj h).symm, rfl⟩
theorem cut_to {xs : List V} {n : Int} (h : 0 ≤ n) : cutV xs none (some n) = xs.take n.toNat := by
  obtain ⟨k, rfl⟩ : ∃ k : Nat, n = k := ⟨n.toNat, by omega⟩
  unfold cutV
  rw [HT.sIx_none, HT.sIx_nat]
  simp only [List.drop_zero, Nat.sub_zero, Int.toNat_natCast]
  rw [List.take_eq_take_iff]
  simp
theorem cut_from {xs : List V} {n : Int} (h : 0 ≤ n) : cutV xs (some n) none = xs.drop n.toNat := by
  obtain ⟨k, rfl⟩ : ∃ k : Nat, n = k := ⟨n.toNat, by omega⟩
  unfold cutV
  rw [HT.sIx_none, HT.sIx_nat]
  simp only [Int.toNat_natCast]
  by_cases hk : k ≤ xs.length
  · rw [Nat.min_eq_left hk, List.take_of_length_le (by rw [List.length_drop]; omega)]
  · rw [Nat.min_eq_right (by omega), List.drop_of_length_le (by omega), List.drop_of_length_le (by omega)]
    simp
theorem cut_mid {xs : List V} {n m : Int} (h : 0 ≤ n) (h' : 0 ≤ m) : cutV xs (some n) (some m) = (xs.take m.toNat).drop n.toNat := by
  obtain ⟨k, rfl⟩ : ∃ k : Nat, n = k := ⟨n.toNat, by omega⟩
  obtain ⟨l, rfl⟩ : ∃ l : Nat, m = l := ⟨m.toNat, by omega⟩
  unfold cutV
  rw [HT.sIx_nat, HT.sIx_nat]
  simp only [Int.toNat_natCast]
  rw [List.drop_take]
  by_cases hk : k ≤ xs.length
  · rw [Nat.min_eq_left hk, List.take_eq_take_iff]
    simp
    omega
  · rw [Nat.min_eq_right (show xs.length ≤ k by omega), List.drop_of_length_le (Nat.le_refl _), List.drop_of_length_le (by omega)]
    simp
theorem ix_zero {n : Nat} (h : 0 < n) : ixN n 0 = some 0 := by
  unfold ixN
  simp
  omega
theorem at_k0 {xs : List V} {v : V} (h : xs[0]? = some v) : atI xs 0 = some v := atI_nat (j := 0) h
theorem at_k1 {xs : List V} {v : V} (h : xs[1]? = some v) : atI xs 1 = some v := atI_nat (j := 1) h
theorem at_k2 {xs : List V} {v : V} (h : xs[2]? = some v) : atI xs 2 = some v := atI_nat (j := 2) h
theorem at_k3 {xs : List V} {v : V} (h : xs[3]? = some v) : atI xs 3 = some v := atI_nat (j := 3) h
theorem at_k4 {xs : List V} {v : V} (h : xs[4]? = some v) : atI xs 4 = some v := atI_nat (j := 4) h
theorem at_k5 {xs : List V} {v : V} (h : xs[5]? = some v) : atI xs 5 = some v := atI_nat (j := 5) h
theorem at_k6 {xs : List V} {v : V} (h : xs[6]? = some v) : atI xs 6 = some v := atI_nat (j := 6) h
theorem at_k7 {xs : List V} {v : V} (h : xs[7]? = some v) : atI xs 7 = some v := atI_nat (j := 7) h
theorem ix_k0 {n : Nat} (h : 0 < n) : ixN n 0 = some 0 := by
  unfold ixN
  simp
  omega
theorem ix_k1 {n : Nat} (h : 1 < n) : ixN n 1 = some 1 := by
  unfold ixN
  simp
  omega
theorem ix_k2 {n : Nat} (h : 2 < n) : ixN n 2 = some 2 := by
  unfold ixN
  simp
  omega
theorem ix_k3 {n : Nat} (h : 3 < n) : ixN n 3 = some 3 := by
  unfold ixN
  simp
  omega
/-- one of a written list's items -/
theorem pick {xs : List V} {i : Int} (h0 : 0 ≤ i) (h : i < xs.length) : ∃ v, atI xs i = some v ∧ v ∈ xs := by
  have hj : i.toNat < xs.length := by omega
  have e : ((i.toNat : Nat) : Int) = i := by omega
  exact ⟨xs[i.toNat], by
    have h := atI_nat (List.getElem?_eq_getElem hj)
    rwa [e] at h, List.getElem_mem hj⟩
theorem g_pick2 {K : PySem.W.Frag} {H : Hp} {Q : VK} {p : Addr} {a b w : Int} (h : SqL K H p [.int a, .int b]) (h0 : 0 ≤ w) (h1 : w < 2) (q : ∀ v : Int, v = a ∨ v = b → Q (.int v) H) : rIxL K (.ref p) (.int w) H Q := by
  obtain ⟨v, hv, hm⟩ := pick (xs := [.int a, .int b]) h0 h1
  simp only [List.mem_cons, List.not_mem_nil, or_false] at hm
  rcases hm with rfl | rfl <;> exact ⟨p, _, w, _, rfl, rfl, h, hv, q _ (by simp)⟩
theorem g_pick3 {K : PySem.W.Frag} {H : Hp} {Q : VK} {p : Addr} {a b c w : Int} (h : SqL K H p [.int a, .int b, .int c]) (h0 : 0 ≤ w) (h1 : w < 3) (q : ∀ v : Int, v = a ∨ v = b ∨ v = c → Q (.int v) H) : rIxL K (.ref p) (.int w) H Q := by
  obtain ⟨v, hv, hm⟩ := pick (xs := [.int a, .int b, .int c]) h0 h1
  simp only [List.mem_cons, List.not_mem_nil, or_false] at hm
  rcases hm with rfl | rfl | rfl <;> exact ⟨p, _, w, _, rfl, rfl, h, hv, q _ (by simp)⟩
theorem g_pick4 {K : PySem.W.Frag} {H : Hp} {Q : VK} {p : Addr} {a b c d w : Int} (h : SqL K H p [.int a, .int b, .int c, .int d]) (h0 : 0 ≤ w) (h1 : w < 4) (q : ∀ v : Int, v = a ∨ v = b ∨ v = c ∨ v = d → Q (.int v) H) : rIxL K (.ref p) (.int w) H Q := by
  obtain ⟨v, hv, hm⟩ := pick (xs := [.int a, .int b, .int c, .int d]) h0 h1
  simp only [List.mem_cons, List.not_mem_nil, or_false] at hm
  rcases hm with rfl | rfl | rfl | rfl <;> exact ⟨p, _, w, _, rfl, rfl, h, hv, q _ (by simp)⟩
theorem g_pick5 {K : PySem.W.Frag} {H : Hp} {Q : VK} {p : Addr} {a b c d e w : Int} (h : SqL K H p [.int a, .int b, .int c, .int d, .int e]) (h0 : 0 ≤ w) (h1 : w < 5) (q : ∀ v : Int, v = a ∨ v = b ∨ v = c ∨ v = d ∨ v = e → Q (.int v) H) : rIxL K (.ref p) (.int w) H Q := by
  obtain ⟨v, hv, hm⟩ := pick (xs := [.int a, .int b, .int c, .int d, .int e]) h0 h1
  simp only [List.mem_cons, List.not_mem_nil, or_false] at hm
  rcases hm with rfl | rfl | rfl | rfl | rfl <;> exact ⟨p, _, w, _, rfl, rfl, h, hv, q _ (by simp)⟩
theorem g_pick6 {K : PySem.W.Frag} {H : Hp} {Q : VK} {p : Addr} {a b c d e f w : Int} (h : SqL K H p [.int a, .int b, .int c, .int d, .int e, .int f]) (h0 : 0 ≤ w) (h1 : w < 6) (q : ∀ v : Int, v = a ∨ v = b ∨ v = c ∨ v = d ∨ v = e ∨ v = f → Q (.int v) H) : rIxL K (.ref p) (.int w) H Q := by
  obtain ⟨v, hv, hm⟩ := pick (xs := [.int a, .int b, .int c, .int d, .int e, .int f]) h0 h1
  simp only [List.mem_cons, List.not_mem_nil, or_false] at hm
  rcases hm with rfl | rfl | rfl | rfl | rfl | rfl <;> exact ⟨p, _, w, _, rfl, rfl, h, hv, q _ (by simp)⟩
theorem g_pick7 {K : PySem.W.Frag} {H : Hp} {Q : VK} {p : Addr} {a b c d e f g w : Int} (h : SqL K H p [.int a, .int b, .int c, .int d, .int e, .int f, .int g]) (h0 : 0 ≤ w) (h1 : w < 7) (q : ∀ v : Int, v = a ∨ v = b ∨ v = c ∨ v = d ∨ v = e ∨ v = f ∨ v = g → Q (.int v) H) : rIxL K (.ref p) (.int w) H Q := by
  obtain ⟨v, hv, hm⟩ := pick (xs := [.int a, .int b, .int c, .int d, .int e, .int f, .int g]) h0 h1
  simp only [List.mem_cons, List.not_mem_nil, or_false] at hm
  rcases hm with rfl | rfl | rfl | rfl | rfl | rfl | rfl <;> exact ⟨p, _, w, _, rfl, rfl, h, hv, q _ (by simp)⟩
theorem g_pick8 {K : PySem.W.Frag} {H : Hp} {Q : VK} {p : Addr} {a b c d e f g k w : Int} (h : SqL K H p [.int a, .int b, .int c, .int d, .int e, .int f, .int g, .int k]) (h0 : 0 ≤ w) (h1 : w < 8) (q : ∀ v : Int, v = a ∨ v = b ∨ v = c ∨ v = d ∨ v = e ∨ v = f ∨ v = g ∨ v = k → Q (.int v) H) : rIxL K (.ref p) (.int w) H Q := by
  obtain ⟨v, hv, hm⟩ := pick (xs := [.int a, .int b, .int c, .int d, .int e, .int f, .int g, .int k]) h0 h1
  simp only [List.mem_cons, List.not_mem_nil, or_false] at hm
  rcases hm with rfl | rfl | rfl | rfl | rfl | rfl | rfl | rfl <;> exact ⟨p, _, w, _, rfl, rfl, h, hv, q _ (by simp)⟩
theorem g_pick9 {K : PySem.W.Frag} {H : Hp} {Q : VK} {p : Addr} {a b c d e f g k l w : Int} (h : SqL K H p [.int a, .int b, .int c, .int d, .int e, .int f, .int g, .int k, .int l]) (h0 : 0 ≤ w) (h1 : w < 9) (q : ∀ v : Int, v = a ∨ v = b ∨ v = c ∨ v = d ∨ v = e ∨ v = f ∨ v = g ∨ v = k ∨ v = l → Q (.int v) H) : rIxL K (.ref p) (.int w) H Q := by
  obtain ⟨v, hv, hm⟩ := pick (xs := [.int a, .int b, .int c, .int d, .int e, .int f, .int g, .int k, .int l]) h0 h1
  simp only [List.mem_cons, List.not_mem_nil, or_false] at hm
  rcases hm with rfl | rfl | rfl | rfl | rfl | rfl | rfl | rfl | rfl <;> exact ⟨p, _, w, _, rfl, rfl, h, hv, q _ (by simp)⟩
theorem g_pick {K : PySem.W.Frag} {H : Hp} {Q : VK} {p : Addr} {xs : List V} {w : Int} (h : SqL K H p xs) (h0 : 0 ≤ w) (h1 : w < xs.length) (q : ∀ v, v ∈ xs → Q v H) : rIxL K (.ref p) (.int w) H Q := by
  obtain ⟨v, hv, hm⟩ := pick (xs := xs) h0 h1
  exact ⟨p, _, w, _, rfl, rfl, h, hv, q _ hm⟩
theorem seq_zero {n : Nat} (h : 0 < n) : seqIndex? 0 n = some 0 := by
  unfold seqIndex?
  simp
  omega
theorem atI_ex {xs : List Int} {i : Int} (h0 : 0 ≤ i) (h : i < xs.length) : ∃ v, atI xs i = some v := by
  have hj : i.toNat < xs.length := by omega
  have e : ((i.toNat : Nat) : Int) = i := by omega
  exact ⟨xs[i.toNat], by
    have h := atI_nat (List.getElem?_eq_getElem hj)
    rwa [e] at h⟩
/-- what is behind an allocation, told by what it keeps -/
theorem new_of {H : Hp} {o : HO} {Q : VK} (h : ∀ p H', Fr H p → Same H H' → H' p = some o → Q (.ref p) H') : ∀ p, Fr H p → Q (.ref p) (upd H p o) := fun p hp => h p _ hp (same_new hp) upd_same
theorem kp_tr {L : List Addr} {H H1 H2 : Hp} (b : Kp L H1 H2) (a : Kp L H H1) : Kp L H H2 := a.trans b
theorem kp_sm {L : List Addr} {H H1 H2 : Hp} (b : Same H1 H2) (a : Kp L H H1) : Kp L H H2 := a.trans (Same.kp b L)
theorem kp_own {L : List Addr} {H H' : Hp} {p : Addr} {o : HO} (hp : Fr H p) (a : Kp L H H') : Kp L H (upd H' p o) := Kp.own a hp
theorem kp_new {L : List Addr} {H H' : Hp} {p : Addr} {o : HO} (hp : Fr H' p) (a : Kp L H H') : Kp L H (upd H' p o) := Kp.new a hp
theorem fr_kp {L : List Addr} {H H' : Hp} {p : Addr} (h : Fr H' p) (e : Kp L H H') (n : p ∉ L) : Fr H p := by
  replace h : H' p = none := h
  cases hH : H p with
  | none => exact hH
  | some o => rw [e p o hH n] at h; cases h
theorem fr_new {H : Hp} {p q : Addr} {o : HO} (h : Fr (upd H q o) p) : Fr H p := by
  replace h : upd H q o p = none := h
  show H p = none
  by_cases e : p = q
  · rw [e, upd_same] at h; cases h
  · rwa [upd_ne e] at h
theorem g_extend {H : Hp} {Q : VK} {p b : Addr} {xs zs : List V} (h : H p = some (.lst xs)) (h2 : H b = some (.lst zs)) (z : xs.length + zs.length ≤ sizeLine) (q : Q .non (upd H p (.lst (xs ++ zs)))) : rExtend (.ref p) [.ref b] H Q := ⟨p, b, xs, zs, rfl, rfl, h, h2, z, q⟩
theorem g_all {K : PySem.W.Frag} {H : Hp} {Q : VK} {p : Addr} {bs : List Bool} (h : SqL K H p (bs.map V.bl)) (q : Q (.bl (bs.all id)) H) : rAll K [.ref p] H Q := ⟨p, bs, rfl, h, q⟩
theorem g_any {K : PySem.W.Frag} {H : Hp} {Q : VK} {p : Addr} {bs : List Bool} (h : SqL K H p (bs.map V.bl)) (q : Q (.bl (bs.any id)) H) : rAny K [.ref p] H Q := ⟨p, bs, rfl, h, q⟩
theorem g_lenA {K : PySem.W.Frag} {H : Hp} {Q : VK} {x : V} {n : Nat} (h : LenV K x H n) (q : Q (.int n) H) : rLenA K [x] H Q := ⟨x, n, rfl, h, q⟩
theorem g_iZip {K : PySem.W.Frag} {σ : L2.St} {H : Hp} {ta : TA} {R : It → Hp → Prop} (h : ta σ H fun vs H1 => ∃ a b xs ys, vs = [.ref a, .ref b] ∧ SqL K H1 a xs ∧ SqL K H1 b ys ∧ R (Itz K a b) H1) : iZip K ta σ H R := h
theorem g_iZipb {K : PySem.W.Frag} {H : Hp} {a b : Addr} {xs ys : List V} {R : Addr → Addr → Prop} (h : SqL K H a xs) (h2 : SqL K H b ys) (q : R a b) : ∃ a' b' xs' ys', [V.ref a, V.ref b] = [.ref a', .ref b'] ∧ SqL K H a' xs' ∧ SqL K H b' ys' ∧ R a' b' := ⟨a, b, xs, ys, rfl, h, h2, q⟩
theorem cut_init {xs : List V} : cutV xs none (some (-1)) = xs.take (xs.length - 1) := by
  unfold cutV
  have e : HT.sIx xs.length xs.length (some (-1)) = xs.length - 1 := by
    show (if (-1 : Int) < 0 then ((-1 : Int) + (xs.length : Int)).toNat else min (-1 : Int).toNat xs.length) = _
    rw [if_pos (by decide)]
    omega
  rw [HT.sIx_none, e, List.drop_zero, Nat.sub_zero]
theorem g_cat {H : Hp} {Q : VK} {p b : Addr} {xs zs : List V} (h : H p = some (.lst xs)) (h2 : H b = some (.lst zs)) (z : xs.length + zs.length ≤ sizeLine) (q : ∀ l, Fr H l → Q (.ref l) (upd H l (.lst (xs ++ zs)))) : rCat (.ref p) (.ref b) H Q := ⟨p, b, xs, zs, rfl, rfl, h, h2, z, q⟩
theorem g_rng3 {σ : L2.St} {H : Hp} {ta : TA} {R : It → Hp → Prop} (h : ta σ H fun vs H1 => ∃ (i j c : Int) (n : Nat), vs = [.int i, .int j, .int c] ∧ RgC i j c n ∧ R (Itc i c n) H1) : iRng3 ta σ H R := h
end Y
/-! YX: list.count of flat items; range of three arguments. -/
namespace Y
open PySem PySem.Spec PyProof.Rows L2
/-- l.count(y), flat items -/
def rCntV (K : PySem.W.Frag) : V → List V → Hp → VK → Prop := fun x vs H Q => ∃ (p : Addr) (xs : List V) (y : V), x = .ref p ∧ vs = [y] ∧ flatV y = true ∧ xs.all flatV = true ∧ SqL K H p xs ∧ Q (.int (xs.countP fun z => eqV z y : Nat)) H
theorem cnt_eqU {x : V} : ∀ {xs : List V} {us : List Value}, Vals xs us → xs.all flatV = true → us.countP (eqU x) = xs.countP fun y => eqV y x
  | _, _, .nil, _ => rfl
  | y :: xs, u :: us, .cons r t, f => by
    rw [List.all_cons, Bool.and_eq_true] at f
    rw [List.countP_cons, List.countP_cons, cnt_eqU t f.2, eqU_of r f.1]
theorem mt_cntV {X : Cx} : MtR X "list.count" (rCntV X.K) := by
  intro pins s σ H x xs v us Q I rx rxs h
  obtain ⟨p, ys, y, rfl, rfl, fy, fs, hs, q⟩ := h
  cases rx
  obtain ⟨u, rfl, ru⟩ := rxs.one
  obtain ⟨its, rv, ⟨⟨cls, dd, data, sl⟩, n, ho, hc, hdn, hd⟩, hlen⟩ := I.list hs
  simp only at hc hd
  subst hc hd
  refine call_meets PySem.F.slot_list_count ⟨_, ho, rfl⟩ PySem.F.entry_list_count (PySem.F.args_list_count_2 _ _) (SeqAt.list_countAt p its.toArray n dd sl u (eqU y))
    ⟨ho, fun z hz => mem_eqAt ru fy rv fs z (by simpa using hz), ?_⟩
  refine ⟨.int (ys.countP fun z => eqV z y : Nat), H, I.tok _, ⟨s.toks, ?_⟩, q⟩
  show Value.int ((its.toArray.toList.countP (eqU y) : Nat) : Int) s.toks = Value.int ((ys.countP fun z => eqV z y : Nat) : Int) s.toks
  rw [show its.toArray.toList = its by simp, cnt_eqU rv fs]
theorem g_cntV {K : PySem.W.Frag} {H : Hp} {Q : VK} {p : Addr} {xs : List V} {y : V} (h : SqL K H p xs) (f : flatV y = true) (fs : xs.all flatV = true) (q : Q (.int (xs.countP fun z => eqV z y : Nat)) H) : rCntV K (.ref p) [y] H Q := ⟨p, xs, y, rfl, rfl, f, fs, h, q⟩
theorem rg_up {n c : Nat} (hc : 0 < c) (hc2 : c < 1000000) (hn : n < 1000000) : RgC 0 ((n : Int) - c + 1) c (n / c) := by
  have e : Builtin.Range.rangeSize 0 ((n : Int) - c + 1) c = ((n / c : Nat) : Int) := by
    unfold Builtin.Range.rangeSize
    rw [if_pos (by omega)]
    by_cases h : c ≤ n
    · rw [if_pos (by omega)]
      have e1 : (n : Int) - c + 1 - 0 - 1 = ((n - c : Nat) : Int) := by omega
      rw [e1]
      have e2 : n / c = (n - c) / c + 1 := by
        have := Nat.sub_mul_div n c 1
        have h3 : 0 < n / c := Nat.div_pos h hc
        rw [Nat.mul_one] at this
        omega
      rw [e2]
      norm_cast
    · rw [if_neg (by omega), Nat.div_eq_of_lt (by omega)]
      rfl
  refine ⟨by omega, by omega, ?_, e⟩
  have h1 : n / c ≤ n := Nat.div_le_self n c
  unfold Builtin.Range.small
  rw [e]
  simp only [Builtin.Range.rangeFitsLong, Bool.and_eq_true, Bool.or_eq_true, decide_eq_true_eq, beq_iff_eq]
  rw [if_pos (show (c : Int) > 0 by omega)]
  simp only [Bool.and_eq_true, decide_eq_true_eq]
  generalize n / c = k at h1
  omega
end Y
/-! YD: data (lists, tuples, numbers, truths, texts, None) and their ==. -/
namespace Y
open PySem PySem.Spec PyProof.Rows L2
mutual
theorem eqv_same : ∀ d : PyData, d.canLay0 = true → PyData.eqv d d = true
  | .none, _ => rfl
  | .bool b, _ => by simp [PyData.eqv]
  | .int i, _ => by simp [PyData.eqv]
  | .str x, _ => by simp [PyData.eqv]
  | .list xs, h => by rw [PyData.eqv]; exact eqv_sameAll xs (by simpa [PyData.canLay0] using h)
  | .tuple xs, h => by rw [PyData.eqv]; exact eqv_sameAll xs (by simpa [PyData.canLay0] using h)
  | .dict _, h => by simp [PyData.canLay0] at h
theorem eqv_sameAll : ∀ xs : List PyData, PyData.canLayAll0 xs = true → PyData.eqvAll xs xs = true
  | [], _ => rfl
  | x :: xs, h => by
    have h' : x.canLay0 = true ∧ PyData.canLayAll0 xs = true := by simpa [PyData.canLayAll0] using h
    rw [PyData.eqvAll, eqv_same x h'.1, eqv_sameAll xs h'.2]; rfl
end
theorem shaped_of {d : PyData} (h : d.canLay0 = true) (k : d.depth ≤ 64) : SeqAt.shaped d = true := by
  unfold SeqAt.shaped
  rw [h, decide_eq_true k]; rfl
theorem canLay_all {xs : List PyData} (h : ∀ x ∈ xs, x.canLay0 = true) : PyData.canLayAll0 xs = true := by
  induction xs with
  | nil => rfl
  | cons x r ih => rw [PyData.canLayAll0, h x (by simp), ih fun y hy => h y (by simp [hy])]; rfl
theorem depth_all {xs : List PyData} {n : Nat} (h : ∀ x ∈ xs, x.depth ≤ n) : PyData.depthAll xs ≤ n := by
  induction xs with
  | nil => exact Nat.zero_le _
  | cons x r ih =>
    rw [PyData.depthAll]
    exact Nat.max_le.mpr ⟨h x (by simp), ih fun y hy => h y (by simp [hy])⟩
/-- data that stand at most so deep -/
def Sh (n : Nat) (d : PyData) : Prop := d.canLay0 = true ∧ d.depth ≤ n
theorem Sh.ok {n : Nat} {d : PyData} (h : Sh n d) (k : n ≤ 64) : SeqAt.shaped d = true := shaped_of h.1 (Nat.le_trans h.2 k)
theorem sh_int (i : Int) (n : Nat) : Sh n (.int i) := ⟨by simp [PyData.canLay0], by simp [PyData.depth]⟩
theorem sh_bl (b : Bool) (n : Nat) : Sh n (.bool b) := ⟨by simp [PyData.canLay0], by simp [PyData.depth]⟩
theorem sh_non (n : Nat) : Sh n .none := ⟨by simp [PyData.canLay0], by simp [PyData.depth]⟩
theorem sh_str {x : Str} (h : PyData.strOk x = true) (n : Nat) : Sh n (.str x) := ⟨by simpa [PyData.canLay0] using h, by simp [PyData.depth]⟩
theorem sh_lst {n : Nat} {xs : List PyData} (h : ∀ x ∈ xs, Sh n x) : Sh (n + 1) (.list xs) :=
  ⟨by rw [PyData.canLay0]; exact canLay_all fun x hx => (h x hx).1, by rw [PyData.depth]; exact Nat.succ_le_succ (depth_all fun x hx => (h x hx).2)⟩
theorem sh_tup {n : Nat} {xs : List PyData} (h : ∀ x ∈ xs, Sh n x) : Sh (n + 1) (.tuple xs) :=
  ⟨by rw [PyData.canLay0]; exact canLay_all fun x hx => (h x hx).1, by rw [PyData.depth]; exact Nat.succ_le_succ (depth_all fun x hx => (h x hx).2)⟩
theorem Sh.mono {n m : Nat} {d : PyData} (h : Sh n d) (k : n ≤ m) : Sh m d := ⟨h.1, Nat.le_trans h.2 k⟩
/-! ### lists of whole numbers, of truths -/
theorem dp_ints {K : PySem.W.Frag} {H : Hp} : ∀ ns : List Int, DpAll K H (ns.map V.int) (ns.map PyData.int)
  | [] => .nil
  | n :: r => .cons (.int n) (dp_ints r)
theorem dp_bls {K : PySem.W.Frag} {H : Hp} : ∀ ns : List Bool, DpAll K H (ns.map V.bl) (ns.map PyData.bool)
  | [] => .nil
  | n :: r => .cons (.bl n) (dp_bls r)
theorem sh_ints (ns : List Int) (n : Nat) : Sh (n + 1) (.list (ns.map PyData.int)) := sh_lst fun x hx => by
  obtain ⟨i, _, rfl⟩ := List.mem_map.mp hx
  exact sh_int i n
theorem sh_bls (ns : List Bool) (n : Nat) : Sh (n + 1) (.list (ns.map PyData.bool)) := sh_lst fun x hx => by
  obtain ⟨i, _, rfl⟩ := List.mem_map.mp hx
  exact sh_bl i n
theorem eqv_ints : ∀ ns ms : List Int, PyData.eqvAll (ns.map PyData.int) (ms.map PyData.int) = decide (ns = ms)
  | [], [] => rfl
  | [], m :: ms => by simp [PyData.eqvAll]
  | n :: ns, [] => by simp [PyData.eqvAll]
  | n :: ns, m :: ms => by
    rw [List.map_cons, List.map_cons, PyData.eqvAll, eqv_ints ns ms, PyData.eqv]
    by_cases h : n = m <;> simp [h]
theorem eqv_bls : ∀ ns ms : List Bool, PyData.eqvAll (ns.map PyData.bool) (ms.map PyData.bool) = decide (ns = ms)
  | [], [] => rfl
  | [], m :: ms => by simp [PyData.eqvAll]
  | n :: ns, [] => by simp [PyData.eqvAll]
  | n :: ns, m :: ms => by
    rw [List.map_cons, List.map_cons, PyData.eqvAll, eqv_bls ns ms, PyData.eqv]
    by_cases h : n = m <;> simp [h]
section
variable {K : PySem.W.Frag} {H : Hp} {Q : VK} {p q : Addr} {ns ms : List Int} {x y : V} {d e : PyData} {n : Nat}
theorem g_eqD_ints (h : SqL K H p (ns.map V.int)) (h' : SqL K H q (ms.map V.int)) (k : Q (.bl (decide (ns = ms))) H) : rEqD K (.ref p) (.ref q) H Q :=
  ⟨_, _, .lst h (dp_ints ns), .lst h' (dp_ints ms), (sh_ints ns 0).ok (by decide), (sh_ints ms 0).ok (by decide), by rw [PyData.eqv, eqv_ints]; exact k⟩
theorem g_neD_ints (h : SqL K H p (ns.map V.int)) (h' : SqL K H q (ms.map V.int)) (k : Q (.bl (!decide (ns = ms))) H) : rNeD K (.ref p) (.ref q) H Q :=
  ⟨_, _, .lst h (dp_ints ns), .lst h' (dp_ints ms), (sh_ints ns 0).ok (by decide), (sh_ints ms 0).ok (by decide), by rw [PyData.eqv, eqv_ints]; exact k⟩
theorem g_neD_bls {ns ms : List Bool} (h : SqL K H p (ns.map V.bl)) (h' : SqL K H q (ms.map V.bl)) (k : Q (.bl (!decide (ns = ms))) H) : rNeD K (.ref p) (.ref q) H Q :=
  ⟨_, _, .lst h (dp_bls ns), .lst h' (dp_bls ms), (sh_bls ns 0).ok (by decide), (sh_bls ms 0).ok (by decide), by rw [PyData.eqv, eqv_bls]; exact k⟩
theorem g_eqD_bls {ns ms : List Bool} (h : SqL K H p (ns.map V.bl)) (h' : SqL K H q (ms.map V.bl)) (k : Q (.bl (decide (ns = ms))) H) : rEqD K (.ref p) (.ref q) H Q :=
  ⟨_, _, .lst h (dp_bls ns), .lst h' (dp_bls ms), (sh_bls ns 0).ok (by decide), (sh_bls ms 0).ok (by decide), by rw [PyData.eqv, eqv_bls]; exact k⟩
/-- alike data -/
theorem g_eqD_same (h : Dp K H x d) (h' : Dp K H y d) (s : Sh n d) (hn : n ≤ 64) (k : Q (.bl true) H) : rEqD K x y H Q :=
  ⟨d, d, h, h', s.ok hn, s.ok hn, by rw [eqv_same d s.1]; exact k⟩
theorem g_neD_same (h : Dp K H x d) (h' : Dp K H y d) (s : Sh n d) (hn : n ≤ 64) (k : Q (.bl false) H) : rNeD K x y H Q :=
  ⟨d, d, h, h', s.ok hn, s.ok hn, by rw [eqv_same d s.1]; exact k⟩
end
/-- the days from c to ahead of g -/
def days (c g : Int) : List Int := (List.range (g - c).toNat).map fun i : Nat => c + (i : Int)
theorem rgV_days (c g : Int) : rgV c g = (days c g).map V.int := by
  unfold rgV days
  rw [List.map_map]
  rfl
theorem days_len (c g : Int) : (days c g).length = (g - c).toNat := by unfold days; rw [List.length_map, List.length_range]
theorem days_get {c g : Int} {i : Nat} (h : (i : Int) < g - c) : (days c g)[i]? = some (c + (i : Int)) := by
  unfold days
  rw [List.getElem?_map, List.getElem?_range (by omega)]
  rfl
theorem days_at {c g i : Int} (h0 : 0 ≤ i) (h : i < g - c) : atI ((days c g).map V.int) i = some (.int (c + i)) := by
  have e : ((i.toNat : Nat) : Int) = i := by omega
  have h2 := atI_nat (xs := (days c g).map V.int) (j := i.toNat) (v := .int (c + i)) (by rw [List.getElem?_map, days_get (by omega), e]; rfl)
  rwa [e] at h2
end Y
/-! YM: lists of stretches, their days, the one rising list of few stretches. -/
namespace Y
open PySem
abbrev Pr : Type := Int × Int
def hasD (ts : List Pr) (d : Int) : Bool := ts.any fun p => decide (p.1 ≤ d) && decide (d ≤ p.2)
theorem hasD_iff {ts : List Pr} {d : Int} : hasD ts d = true ↔ ∃ p ∈ ts, p.1 ≤ d ∧ d ≤ p.2 := by
  unfold hasD
  rw [List.any_eq_true]
  constructor
  · rintro ⟨p, hp, h⟩
    exact ⟨p, hp, by simpa using h⟩
  · rintro ⟨p, hp, h⟩
    exact ⟨p, hp, by simpa using h⟩
theorem hasD_no {ts : List Pr} {d : Int} : hasD ts d = false ↔ ∀ p ∈ ts, ¬ (p.1 ≤ d ∧ d ≤ p.2) := by
  rw [← Bool.not_eq_true, hasD_iff]
  constructor
  · intro h p hp q; exact h ⟨p, hp, q⟩
  · rintro h ⟨p, hp, q⟩; exact h p hp q
theorem hasD_cons (p : Pr) (ts : List Pr) (d : Int) : hasD (p :: ts) d = ((decide (p.1 ≤ d) && decide (d ≤ p.2)) || hasD ts d) := by
  unfold hasD
  rw [List.any_cons]
theorem hasD_app (as bs : List Pr) (d : Int) : hasD (as ++ bs) d = (hasD as d || hasD bs d) := by
  unfold hasD
  rw [List.any_append]
theorem hasD_perm {as bs : List Pr} (h : as.Perm bs) (d : Int) : hasD as d = hasD bs d := by
  rw [Bool.eq_iff_iff, hasD_iff, hasD_iff]
  constructor
  · rintro ⟨p, hp, q⟩; exact ⟨p, h.mem_iff.mp hp, q⟩
  · rintro ⟨p, hp, q⟩; exact ⟨p, h.mem_iff.mpr hp, q⟩
/-- each is none of the wrong way round -/
def Up (ts : List Pr) : Prop := ∀ p ∈ ts, p.1 ≤ p.2
/-- rising, a day between each two -/
structure Can (ts : List Pr) : Prop where
  up : Up ts
  gap : ts.Pairwise fun p q => p.2 + 1 < q.1
theorem Can.nil : Can [] := ⟨fun p hp => by simp at hp, List.Pairwise.nil⟩
theorem Can.tail {p : Pr} {ts : List Pr} (h : Can (p :: ts)) : Can ts := ⟨fun q hq => h.up q (by simp [hq]), (List.pairwise_cons.mp h.gap).2⟩
theorem Can.head {p : Pr} {ts : List Pr} (h : Can (p :: ts)) : p.1 ≤ p.2 := h.up p (by simp)
theorem Can.next {p : Pr} {ts : List Pr} (h : Can (p :: ts)) : ∀ q ∈ ts, p.2 + 1 < q.1 := (List.pairwise_cons.mp h.gap).1
/-- the tail has no day up to the head's end and one more -/
theorem Can.off {p : Pr} {ts : List Pr} (h : Can (p :: ts)) {d : Int} (hd : d ≤ p.2 + 1) : hasD ts d = false := hasD_no.mpr fun q hq z => by
  have := h.next q hq
  omega
theorem can_uniq : ∀ {as bs : List Pr}, Can as → Can bs → (∀ d, hasD as d = hasD bs d) → as = bs
  | [], [], _, _, _ => rfl
  | [], q :: bs, _, hb, h => by
    have h1 := h q.1
    have h2 : hasD (q :: bs) q.1 = true := hasD_iff.mpr ⟨q, by simp, Int.le_refl _, hb.head⟩
    rw [h2] at h1
    cases h1
  | p :: as, [], ha, _, h => by
    have h1 := h p.1
    have h2 : hasD (p :: as) p.1 = true := hasD_iff.mpr ⟨p, by simp, Int.le_refl _, ha.head⟩
    rw [h2] at h1
    cases h1
  | p :: as, q :: bs, ha, hb, h => by
    have low : ∀ {x : Pr} {xs : List Pr} {d : Int}, Can (x :: xs) → hasD (x :: xs) d = true → x.1 ≤ d := fun {x xs d} hc hd => by
      obtain ⟨y, hy, z1, z2⟩ := hasD_iff.mp hd
      rcases List.mem_cons.mp hy with e | hy
      · rw [← e]; exact z1
      · have := hc.next y hy
        have := hc.head
        omega
    have hp := ha.head
    have hq := hb.head
    have a1 : q.1 ≤ p.1 := low hb (by rw [← h]; exact hasD_iff.mpr ⟨p, by simp, Int.le_refl _, hp⟩)
    have a2 : p.1 ≤ q.1 := low ha (by rw [h]; exact hasD_iff.mpr ⟨q, by simp, Int.le_refl _, hq⟩)
    have top : ∀ {x y : Pr} {xs ys : List Pr}, Can (x :: xs) → Can (y :: ys) → (∀ d, hasD (x :: xs) d = hasD (y :: ys) d) → x.1 = y.1 → y.2 ≤ x.2 := fun {x y xs ys} hx hy hh e => by
      by_cases hc : y.2 ≤ x.2
      · exact hc
      · have h1 := hx.head
        have h2 : hasD (y :: ys) (x.2 + 1) = true := hasD_iff.mpr ⟨y, by simp, by omega, by omega⟩
        rw [← hh, hasD_cons, hx.off (Int.le_refl _)] at h2
        simp at h2
        omega
    have e1 : p.1 = q.1 := by omega
    have b1 := top ha hb h e1
    have b2 := top hb ha (fun d => (h d).symm) e1.symm
    have e : p = q := Prod.ext e1 (by omega)
    subst e
    refine congrArg (p :: ·) (can_uniq ha.tail hb.tail fun d => ?_)
    by_cases hd : d ≤ p.2
    · rw [ha.off (by omega), hb.off (by omega)]
    · have h1 := h d
      rw [hasD_cons, hasD_cons] at h1
      simpa [show ¬ d ≤ p.2 from hd] using h1
/-- one turn of the spreading: the last stretch ahead is made longer, or a new one is laid -/
def sprTurn (F : List Pr) (p : Pr) : List Pr := match F.getLast? with
  | some l => if p.1 ≤ l.2 + 1 then F.dropLast ++ [(l.1, max l.2 p.2)] else F ++ [p]
  | none => [p]
theorem pw_snoc {ts : List Pr} {l : Pr} (h : Can (ts ++ [l])) : Can ts ∧ (∀ q ∈ ts, q.2 + 1 < l.1) ∧ l.1 ≤ l.2 := by
  obtain ⟨h1, h2, h3⟩ := List.pairwise_append.mp h.gap
  exact ⟨⟨fun p hp => h.up p (by simp [hp]), h1⟩, fun q hq => h3 q hq l (by simp), h.up l (by simp)⟩
theorem can_snoc {ts : List Pr} {l : Pr} (h : Can ts) (h1 : ∀ q ∈ ts, q.2 + 1 < l.1) (h2 : l.1 ≤ l.2) : Can (ts ++ [l]) :=
  ⟨fun p hp => by
    rcases List.mem_append.mp hp with hp | hp
    · exact h.up p hp
    · rw [List.mem_singleton.mp hp]; exact h2, List.pairwise_append.mpr ⟨h.gap, List.pairwise_singleton _ _, fun a ha b hb => by rw [List.mem_singleton.mp hb]; exact h1 a ha⟩⟩
theorem last_snoc {α : Type} (ts : List α) (l : α) : (ts ++ [l]).getLast? = some l := by simp
theorem sprTurn_nil (p : Pr) : sprTurn [] p = [p] := rfl
theorem sprTurn_snoc (ts : List Pr) (l p : Pr) : sprTurn (ts ++ [l]) p = if p.1 ≤ l.2 + 1 then ts ++ [(l.1, max l.2 p.2)] else ts ++ [l] ++ [p] := by
  unfold sprTurn
  rw [last_snoc]
  show (if p.1 ≤ l.2 + 1 then (ts ++ [l]).dropLast ++ [(l.1, max l.2 p.2)] else _) = _
  rw [List.dropLast_concat]
/-- what holds between the turns: F is rising, each of its stretches begins no later than what comes -/
structure SprIn (F : List Pr) (seen : List Pr) : Prop where
  can : Can F
  days : ∀ d, hasD F d = hasD seen d
  low : ∀ q ∈ F, ∃ r ∈ seen, q.1 = r.1
theorem SprIn.nil : SprIn [] [] := ⟨Can.nil, fun _ => rfl, fun q hq => by simp at hq⟩
theorem snoc_cases {α : Type} : ∀ F : List α, F = [] ∨ ∃ ts l, F = ts ++ [l]
  | [] => .inl rfl
  | x :: xs => .inr ⟨(x :: xs).dropLast, (x :: xs).getLast (by simp), (List.dropLast_concat_getLast (by simp)).symm⟩
theorem SprIn.turn {F seen : List Pr} {p : Pr} (h : SprIn F seen) (hp : p.1 ≤ p.2) (ord : ∀ r ∈ seen, r.1 ≤ p.1) : SprIn (sprTurn F p) (seen ++ [p]) := by
  rcases snoc_cases F with rfl | ⟨ts, l, rfl⟩
  · rw [sprTurn_nil]
    refine ⟨⟨fun q hq => by rw [List.mem_singleton.mp hq]; exact hp, List.pairwise_singleton _ _⟩, fun d => ?_, fun q hq => ⟨p, by simp, by rw [List.mem_singleton.mp hq]⟩⟩
    rw [hasD_app, ← h.days]
    simp [hasD]
  · obtain ⟨c1, c2, c3⟩ := pw_snoc h.can
    obtain ⟨r, hr, er⟩ := h.low l (by simp)
    have o1 : l.1 ≤ p.1 := by rw [er]; exact ord r hr
    have dl : ∀ d, hasD (seen ++ [p]) d = (hasD ts d || (decide (l.1 ≤ d) && decide (d ≤ l.2)) || (decide (p.1 ≤ d) && decide (d ≤ p.2))) := fun d => by
      rw [hasD_app, ← h.days, hasD_app]
      simp [hasD]
    rw [sprTurn_snoc]
    by_cases hc : p.1 ≤ l.2 + 1
    · rw [if_pos hc]
      refine ⟨can_snoc c1 c2 (by show l.1 ≤ max l.2 p.2; omega), fun d => ?_, fun q hq => ?_⟩
      · rw [dl, hasD_app, Bool.or_assoc]
        congr 1
        unfold hasD
        rw [List.any_cons, List.any_nil, Bool.or_false, Bool.eq_iff_iff]
        simp
        omega
      · rcases List.mem_append.mp hq with hq | hq
        · obtain ⟨r', hr', e'⟩ := h.low q (by simp [hq])
          exact ⟨r', by simp [hr'], e'⟩
        · rw [List.mem_singleton.mp hq]
          exact ⟨r, by simp [hr], er⟩
    · rw [if_neg hc]
      refine ⟨can_snoc h.can (fun q hq => ?_) hp, fun d => ?_, fun q hq => ?_⟩
      · rcases List.mem_append.mp hq with hq | hq
        · have := c2 q hq
          omega
        · rw [List.mem_singleton.mp hq]
          omega
      · rw [dl, hasD_app, hasD_app]
        simp [hasD]
      · rcases List.mem_append.mp hq with hq | hq
        · obtain ⟨r', hr', e'⟩ := h.low q hq
          exact ⟨r', by simp [hr'], e'⟩
        · rw [List.mem_singleton.mp hq]
          exact ⟨p, by simp, rfl⟩
/-- what one stretch lacks of another -/
def wo (p q : Pr) : List Pr := (if p.1 < q.1 then [(p.1, min p.2 (q.1 - 1))] else []) ++ if q.2 < p.2 then [(max p.1 (q.2 + 1), p.2)] else []
theorem wo_has {p q : Pr} (hq : q.1 ≤ q.2) (d : Int) : hasD (wo p q) d = (decide (p.1 ≤ d) && decide (d ≤ p.2) && !(decide (q.1 ≤ d) && decide (d ≤ q.2))) := by
  unfold wo
  rw [hasD_app, Bool.eq_iff_iff]
  split <;> split <;> simp [hasD] <;> omega
theorem wo_can {p q : Pr} (hp : p.1 ≤ p.2) (hq : q.1 ≤ q.2) : Can (wo p q) := by
  unfold wo
  refine ⟨fun r hr => ?_, ?_⟩
  · rcases List.mem_append.mp hr with hr | hr
    · split at hr
      · rw [List.mem_singleton.mp hr]
        show p.1 ≤ min p.2 (q.1 - 1)
        omega
      · cases hr
    · split at hr
      · rw [List.mem_singleton.mp hr]
        show max p.1 (q.2 + 1) ≤ p.2
        omega
      · cases hr
  · split <;> split <;> simp
    omega
theorem wo_in {p q r : Pr} (hr : r ∈ wo p q) : p.1 ≤ r.1 ∧ r.2 ≤ p.2 := by
  unfold wo at hr
  rcases List.mem_append.mp hr with hr | hr
  · split at hr
    · rw [List.mem_singleton.mp hr]
      exact ⟨Int.le_refl _, by show min p.2 (q.1 - 1) ≤ p.2; omega⟩
    · cases hr
  · split at hr
    · rw [List.mem_singleton.mp hr]
      exact ⟨by show p.1 ≤ max p.1 (q.2 + 1); omega, Int.le_refl _⟩
    · cases hr
theorem flat_can {q : Pr} (hq : q.1 ≤ q.2) : ∀ {ts : List Pr}, Can ts → Can (ts.flatMap fun p => wo p q)
  | [], _ => Can.nil
  | p :: ts, h => by
    have ih := flat_can hq h.tail
    have hp := wo_can h.head hq
    rw [List.flatMap_cons]
    refine ⟨fun r hr => ?_, List.pairwise_append.mpr ⟨hp.gap, ih.gap, fun a ha b hb => ?_⟩⟩
    · rcases List.mem_append.mp hr with hr | hr
      · exact hp.up r hr
      · exact ih.up r hr
    · obtain ⟨c, hc, hb⟩ := List.mem_flatMap.mp hb
      have := wo_in ha
      have := wo_in hb
      have := h.next c hc
      omega
theorem flat_has {q : Pr} (hq : q.1 ≤ q.2) (ts : List Pr) (d : Int) : hasD (ts.flatMap fun p => wo p q) d = (hasD ts d && !(decide (q.1 ≤ d) && decide (d ≤ q.2))) := by
  induction ts with
  | nil => simp [hasD]
  | cons p ts ih =>
    rw [List.flatMap_cons, hasD_app, ih, wo_has hq, hasD_cons, Bool.and_or_distrib_right]
theorem can_off {us : List Pr} (hc : Can us) {u : Pr} (hu : u ∈ us) : hasD us (u.2 + 1) = false := by
  induction us with
  | nil => cases hu
  | cons p ts ih =>
    rw [hasD_cons]
    rcases List.mem_cons.mp hu with rfl | hu
    · rw [hc.off (Int.le_refl _)]
      simp
      omega
    · rw [ih hc.tail hu]
      have h1 := hc.next u hu
      have h2 := hc.tail.up u hu
      simp
      omega
theorem can_off1 {us : List Pr} (hc : Can us) {u : Pr} (hu : u ∈ us) : hasD us (u.1 - 1) = false := by
  induction us with
  | nil => cases hu
  | cons p ts ih =>
    rw [hasD_cons]
    rcases List.mem_cons.mp hu with rfl | hu
    · have := hc.head
      rw [hc.off (by omega)]
      simp
      omega
    · rw [ih hc.tail hu]
      have h1 := hc.next u hu
      simp
      omega
def OkD (p : Pr) : Prop := 0 ≤ p.1 ∧ p.1 ≤ p.2 ∧ p.2 ≤ 1000000
theorem up_nil : Up [] := fun p hp => by simp at hp
theorem up_app {as bs : List Pr} (h : Up as) (k : Up bs) : Up (as ++ bs) := fun p hp => (List.mem_append.mp hp).elim (h p) (k p)
theorem up_rev {as : List Pr} (h : Up as) : Up as.reverse := fun p hp => h p (List.mem_reverse.mp hp)
theorem hasD_rev (as : List Pr) (d : Int) : hasD as.reverse d = hasD as d := hasD_perm (List.reverse_perm as) d
theorem hasD_nil (d : Int) : hasD [] d = false := rfl
end Y
/-! YT: the law's tape in the heap; tuples that stay. -/
namespace Y
open PySem PySem.Spec PyProof.Rows L2
/-- a tape at t: its great cells at b, all cells at s, how many were drawn -/
def Tape (H : Hp) (t b s : Addr) : Prop := t ≠ b ∧ t ≠ s ∧ b ≠ s ∧ ∃ (A S : List Int) (n : Int),
  H t = some (.lst [.ref b, .ref s, .int n]) ∧ H b = some (.lst (A.map V.int)) ∧ H s = some (.lst (S.map V.int))
theorem log9 {m : Int} (h0 : 0 < m) (h : m < 2 ^ 250) : m.natAbs.log2 < 9000 :=
  Nat.lt_trans (PySem.Flt.log2_lt_of (k := 250) (by decide) (by
    have e : (m.natAbs : Int) = m := by omega
    have h2 : (m.natAbs : Int) < ((2 ^ 250 : Nat) : Int) := by rw [e]; exact h
    exact Int.ofNat_lt.mp h2)) (by decide)
theorem ni_tape {H : Hp} {t b s p : Addr} (hp : Fr H p) (T : Tape H t b s) : p ∉ [t, b] := by
  replace hp : H p = none := hp
  obtain ⟨_, _, _, A, S, n, h1, h2, h3⟩ := T
  intro h
  rcases List.mem_cons.mp h with e | h
  · rw [e, h1] at hp; cases hp
  · rw [List.mem_singleton.mp h, h2] at hp; cases hp
theorem tape_same {H H' : Hp} {t b s : Addr} (e : Same H H') (T : Tape H t b s) : Tape H' t b s := by
  obtain ⟨n1, n2, n3, A, S, n, h1, h2, h3⟩ := T
  exact ⟨n1, n2, n3, A, S, n, e _ _ h1, e _ _ h2, e _ _ h3⟩
theorem tape_new {H : Hp} {t b s p : Addr} {o : HO} (hp : Fr H p) (T : Tape H t b s) : Tape (upd H p o) t b s := tape_same (same_new hp) T
theorem tape_own {H H0 : Hp} {t b s p : Addr} {o : HO} (hp : Fr H0 p) (T0 : Tape H0 t b s) (T : Tape H t b s) : Tape (upd H p o) t b s := by
  obtain ⟨n1, n2, n3, A, S, n, h1, h2, h3⟩ := T
  obtain ⟨_, _, _, A', S', n', k1, k2, k3⟩ := T0
  exact ⟨n1, n2, n3, A, S, n, at_ne (ne_of_none k1 hp) h1, at_ne (ne_of_none k2 hp) h2, at_ne (ne_of_none k3 hp) h3⟩
/-- the tuples stay -/
def Tk (H H' : Hp) : Prop := ∀ a xs, H a = some (.tup xs) → H' a = some (.tup xs)
theorem Tk.refl (H : Hp) : Tk H H := fun _ _ h => h
theorem Tk.trans {H H1 H2 : Hp} (a : Tk H H1) (b : Tk H1 H2) : Tk H H2 := fun c xs h => b c xs (a c xs h)
theorem Same.tk {H H' : Hp} (e : Same H H') : Tk H H' := fun a xs h => e _ _ h
theorem tk_new {H : Hp} {p : Addr} {o : HO} (h : Fr H p) : Tk H (upd H p o) := Same.tk (same_new h)
theorem tk_put {H : Hp} {p : Addr} {o : HO} {zs : List V} (h : H p = some (.lst zs)) : Tk H (upd H p o) := fun a xs e => at_ne (fun z => by rw [z, h] at e; cases e) e
theorem tk_kp {H H' : Hp} {t b s : Addr} (T : Tape H t b s) (k : Kp [t, b] H H') : Tk H H' := fun a xs e => k a _ e fun m => by
  obtain ⟨_, _, _, A, S, n, h1, h2, h3⟩ := T
  rcases List.mem_cons.mp m with z | m
  · rw [z, h1] at e; cases e
  · rw [List.mem_singleton.mp m, h2] at e; cases e
theorem at_tk {H H' : Hp} {t b s a : Addr} {xs : List V} (k : Kp [t, b] H H') (T : Tape H t b s) (h : H a = some (.tup xs)) : H' a = some (.tup xs) := tk_kp T k a xs h
end Y
/-! YP: pairs of whole numbers in the heap; comprehensions that make nothing but their list. -/
namespace Y
open PySem PySem.Spec PyProof.Rows L2
/-- v is a tuple of the pair p -/
def PrAt (G : Hp) (v : V) (p : Pr) : Prop := ∃ t, v = .ref t ∧ G t = some (.tup [.int p.1, .int p.2])
abbrev PrsAt (G : Hp) : List V → List Pr → Prop := Paired (PrAt G)
theorem PrAt.same {G G' : Hp} {v : V} {p : Pr} (e : Same G G') (h : PrAt G v p) : PrAt G' v p := let ⟨t, a, b⟩ := h; ⟨t, a, e _ _ b⟩
theorem PrsAt.same {G G' : Hp} {xs : List V} {ts : List Pr} (e : Same G G') (h : PrsAt G xs ts) : PrsAt G' xs ts := Paired.mapP h fun _ _ q => q.same e
theorem Paired.app {α β : Type} {F : α → β → Prop} : ∀ {as : List α} {bs : List β} {cs : List α} {ds : List β}, Paired F as bs → Paired F cs ds → Paired F (as ++ cs) (bs ++ ds)
  | _, _, _, _, .nil, h => h
  | _, _, _, _, .cons r t, h => .cons r (Paired.app t h)
theorem Paired.snoc {α β : Type} {F : α → β → Prop} {as : List α} {bs : List β} {a : α} {b : β} (h : Paired F as bs) (r : F a b) : Paired F (as ++ [a]) (bs ++ [b]) := Paired.app h (.cons r .nil)
theorem Paired.getL {α β : Type} {F : α → β → Prop} : ∀ {as : List α} {bs : List β} {i : Nat} {a : α}, Paired F as bs → as[i]? = some a → ∃ b, bs[i]? = some b ∧ F a b
  | _, _, _, _, .nil, e => by simp at e
  | _, _, 0, _, .cons r _, e => by simp at e; subst e; exact ⟨_, rfl, r⟩
  | _, _, i + 1, a, .cons r t, e => by
    obtain ⟨b, h1, h2⟩ := Paired.getL (i := i) t (by simpa using e)
    exact ⟨b, by simpa using h1, h2⟩
theorem Paired.getR {α β : Type} {F : α → β → Prop} : ∀ {as : List α} {bs : List β} {i : Nat} {b : β}, Paired F as bs → bs[i]? = some b → ∃ a, as[i]? = some a ∧ F a b
  | _, _, _, _, .nil, e => by simp at e
  | _, _, 0, _, .cons r _, e => by simp at e; subst e; exact ⟨_, rfl, r⟩
  | _, _, i + 1, b, .cons r t, e => by
    obtain ⟨a, h1, h2⟩ := Paired.getR (i := i) t (by simpa using e)
    exact ⟨a, by simpa using h1, h2⟩
theorem Paired.snocL {α β : Type} {F : α → β → Prop} {as : List α} {a : α} : ∀ {cs : List β}, Paired F (as ++ [a]) cs → ∃ bs b, cs = bs ++ [b] ∧ Paired F as bs ∧ F a b := by
  induction as with
  | nil =>
    intro cs h
    cases h with
    | cons r t => cases t; exact ⟨[], _, rfl, .nil, r⟩
  | cons x xs ih =>
    intro cs h
    cases h with
    | cons r t =>
      obtain ⟨bs, b, rfl, h1, h2⟩ := ih t
      exact ⟨_ :: bs, b, rfl, .cons r h1, h2⟩
theorem Paired.snocR {α β : Type} {F : α → β → Prop} {bs : List β} {b : β} : ∀ {cs : List α}, Paired F cs (bs ++ [b]) → ∃ as a, cs = as ++ [a] ∧ Paired F as bs ∧ F a b := by
  induction bs with
  | nil =>
    intro cs h
    cases h with
    | cons r t => cases t; exact ⟨[], _, rfl, .nil, r⟩
  | cons x xs ih =>
    intro cs h
    cases h with
    | cons r t =>
      obtain ⟨as, a, rfl, h1, h2⟩ := ih t
      exact ⟨_ :: as, a, rfl, .cons r h1, h2⟩
theorem Paired.len {α β : Type} {F : α → β → Prop} {as : List α} {bs : List β} (h : Paired F as bs) : as.length = bs.length := Paired.length h
/-- the pair that stands at a value -/
def kOf (G : Hp) : V → Pr
  | .ref t => match G t with
    | some (.tup [.int i, .int j]) => (i, j)
    | _ => (0, 0)
  | _ => (0, 0)
theorem kOf_at {G : Hp} {v : V} {p : Pr} (h : PrAt G v p) : kOf G v = p := by
  obtain ⟨t, rfl, e⟩ := h
  simp only [kOf, e]
theorem prs_map {G : Hp} : ∀ {xs : List V} {ts : List Pr}, PrsAt G xs ts → ts = xs.map (kOf G)
  | _, _, .nil => rfl
  | _, _, .cons r t => by rw [List.map_cons, kOf_at r, ← prs_map t]
theorem prs_mem {G : Hp} {xs : List V} {ts : List Pr} (h : PrsAt G xs ts) {x : V} (hx : x ∈ xs) : PrAt G x (kOf G x) := by
  obtain ⟨i, hi, e⟩ := List.mem_iff_getElem.mp hx
  obtain ⟨b, _, q⟩ := Paired.getL h (List.getElem?_eq_some_iff.mpr ⟨hi, e⟩)
  rw [kOf_at q]
  exact q
theorem prs_of {G : Hp} : ∀ {xs : List V}, (∀ x ∈ xs, PrAt G x (kOf G x)) → PrsAt G xs (xs.map (kOf G))
  | [], _ => .nil
  | x :: xs, h => .cons (h x (by simp)) (prs_of fun y hy => h y (by simp [hy]))
theorem PrAt.at {G : Hp} {v : V} {p : Pr} (h : PrAt G v p) : ∃ t, v = .ref t ∧ G t = some (.tup [.int p.1, .int p.2]) := h
theorem pr_tk {G G' : Hp} {v : V} {p : Pr} (e : Tk G G') (h : PrAt G v p) : PrAt G' v p := let ⟨t, a, b⟩ := h; ⟨t, a, e _ _ b⟩
theorem prs_tk {G G' : Hp} {xs : List V} {ts : List Pr} (e : Tk G G') (h : PrsAt G xs ts) : PrsAt G' xs ts := Paired.mapP h fun _ _ q => pr_tk e q
theorem prs_new {H : Hp} {xs : List V} {ts : List Pr} {p : Addr} {o : HO} (hp : Fr H p) (h : PrsAt H xs ts) : PrsAt (upd H p o) xs ts := prs_tk (tk_new hp) h
theorem prs_put {H : Hp} {xs zs : List V} {ts : List Pr} {p : Addr} {o : HO} (hp : H p = some (.lst zs)) (h : PrsAt H xs ts) : PrsAt (upd H p o) xs ts := prs_tk (tk_put hp) h
theorem prs_same {H H' : Hp} {xs : List V} {ts : List Pr} (e : Same H H') (h : PrsAt H xs ts) : PrsAt H' xs ts := prs_tk (Same.tk e) h
theorem prs_kp {H H' : Hp} {xs : List V} {ts : List Pr} {t b s : Addr} (k : Kp [t, b] H H') (T : Tape H t b s) (h : PrsAt H xs ts) : PrsAt H' xs ts := prs_tk (tk_kp T k) h
theorem pr_new {H : Hp} {v : V} {q : Pr} {p : Addr} {o : HO} (hp : Fr H p) (h : PrAt H v q) : PrAt (upd H p o) v q := pr_tk (tk_new hp) h
theorem pr_put {H : Hp} {zs : List V} {v : V} {q : Pr} {p : Addr} {o : HO} (hp : H p = some (.lst zs)) (h : PrAt H v q) : PrAt (upd H p o) v q := pr_tk (tk_put hp) h
theorem pr_same {H H' : Hp} {v : V} {q : Pr} (e : Same H H') (h : PrAt H v q) : PrAt H' v q := pr_tk (Same.tk e) h
theorem pr_kp {H H' : Hp} {v : V} {q : Pr} {t b s : Addr} (k : Kp [t, b] H H') (T : Tape H t b s) (h : PrAt H v q) : PrAt H' v q := pr_tk (tk_kp T k) h
theorem pr_of {H : Hp} {t : Addr} {i j : Int} (h : H t = some (.tup [.int i, .int j])) : PrAt H (.ref t) (i, j) := ⟨t, rfl, h⟩
theorem prs_snoc {H : Hp} {xs : List V} {ts : List Pr} {v : V} {q : Pr} (h : PrsAt H xs ts) (r : PrAt H v q) : PrsAt H (xs ++ [v]) (ts ++ [q]) := Paired.snoc h r
theorem prs_app {H : Hp} {xs ys : List V} {ts us : List Pr} (h : PrsAt H xs ts) (r : PrsAt H ys us) : PrsAt H (xs ++ ys) (ts ++ us) := Paired.app h r
theorem prs_cons {H : Hp} {xs : List V} {ts : List Pr} {v : V} {q : Pr} (r : PrAt H v q) (h : PrsAt H xs ts) : PrsAt H (v :: xs) (q :: ts) := .cons r h
theorem prs_nil {H : Hp} : PrsAt H [] [] := .nil
/-! ### as data -/
def prD (p : Pr) : PyData := .tuple [.int p.1, .int p.2]
theorem dp_pr {K : PySem.W.Frag} {H : Hp} {v : V} {p : Pr} (h : PrAt H v p) : Dp K H v (prD p) := by
  obtain ⟨t, rfl, e⟩ := h
  exact .tup (SqT.of e) (.cons (.int _) (.cons (.int _) .nil))
theorem dp_prs {K : PySem.W.Frag} {H : Hp} : ∀ {xs : List V} {ts : List Pr}, PrsAt H xs ts → DpAll K H xs (ts.map prD)
  | _, _, .nil => .nil
  | _, _, .cons r t => .cons (dp_pr r) (dp_prs t)
theorem sh_pr (p : Pr) (n : Nat) : Sh (n + 1) (prD p) := sh_tup fun x hx => by
  rcases List.mem_cons.mp hx with e | hx
  · rw [e]; exact sh_int _ _
  · rw [List.mem_singleton.mp hx]; exact sh_int _ _
theorem sh_prs (ts : List Pr) (n : Nat) : Sh (n + 2) (.list (ts.map prD)) := sh_lst fun x hx => by
  obtain ⟨p, _, rfl⟩ := List.mem_map.mp hx
  exact sh_pr p n
theorem eqv_pr (p q : Pr) : PyData.eqv (prD p) (prD q) = decide (p = q) := by
  unfold prD
  rw [PyData.eqv, PyData.eqvAll, PyData.eqvAll, PyData.eqvAll, PyData.eqv, PyData.eqv, Bool.eq_iff_iff]
  simp [Prod.ext_iff]
theorem eqv_prs : ∀ ts us : List Pr, PyData.eqvAll (ts.map prD) (us.map prD) = decide (ts = us)
  | [], [] => rfl
  | [], m :: ms => by simp [PyData.eqvAll]
  | n :: ns, [] => by simp [PyData.eqvAll]
  | n :: ns, m :: ms => by
    rw [List.map_cons, List.map_cons, PyData.eqvAll, eqv_prs ns ms, eqv_pr]
    by_cases h : n = m <;> simp [h]
section
variable {K : PySem.W.Frag} {H : Hp} {Q : VK} {p q : Addr} {xs ys : List V} {ts us : List Pr}
theorem g_eqD_prs (h : SqL K H p xs) (h' : SqL K H q ys) (t : PrsAt H xs ts) (u : PrsAt H ys us) (k : Q (.bl (decide (ts = us))) H) : rEqD K (.ref p) (.ref q) H Q :=
  ⟨_, _, .lst h (dp_prs t), .lst h' (dp_prs u), (sh_prs ts 0).ok (by decide), (sh_prs us 0).ok (by decide), by rw [PyData.eqv, eqv_prs]; exact k⟩
theorem g_neD_prs (h : SqL K H p xs) (h' : SqL K H q ys) (t : PrsAt H xs ts) (u : PrsAt H ys us) (k : Q (.bl (!decide (ts = us))) H) : rNeD K (.ref p) (.ref q) H Q :=
  ⟨_, _, .lst h (dp_prs t), .lst h' (dp_prs u), (sh_prs ts 0).ok (by decide), (sh_prs us 0).ok (by decide), by rw [PyData.eqv, eqv_prs]; exact k⟩
end
/-- sorted, of pairs -/
theorem g_sortedP {K : PySem.W.Frag} {H : Hp} {Q : VK} {a : Addr} {xs : List V} {ts : List Pr} (h : SqL K H a xs) (hp : PrsAt H xs ts)
    (q : ∀ (p : Addr) (ys : List V) (us : List Pr), Fr H p → PrsAt H ys us → us.Perm ts → (us.Pairwise fun p q => p.1 < q.1 ∨ (p.1 = q.1 ∧ p.2 ≤ q.2)) → Q (.ref p) (upd H p (.lst ys))) : rSortedPO K [.ref a] H Q :=
  ⟨a, xs, kOf H, rfl, h, fun x hx => prs_mem hp hx, fun ys p hs hb hn => q p ys (ys.map (kOf H)) hn (prs_of fun x hx => prs_mem hp (hb.perm.mem_iff.mp hx)) (by rw [prs_map hp]; exact hb.perm.map _)
    (List.pairwise_map.mpr (hs.imp fun {x y} e => by
      have e' := SrtO.lexB_no.mp (show SrtO.lexB (kOf H y) (kOf H x) = false from e)
      omega))⟩
theorem jn {t u : TS} {D : Ends} {σ : L2.St} {H : Hp} (P : L2.St → Hp → Prop) (k : ∀ σ H, P σ H → u D σ H) (h : ∀ N : L2.St → Hp → Prop, (∀ σ H, P σ H → N σ H) → t { D with nx := N } σ H) : tSeq t u D σ H := h (u D) k
theorem ix_last {n : Nat} (h : 0 < n) : ixN n (-1) = some (n - 1) := by
  unfold ixN
  rw [if_neg (by decide), if_pos (by omega)]
  congr 1
  omega
theorem at_last {α : Type} (xs : List α) (x : α) : atI (xs ++ [x]) (-1) = some x := by
  unfold atI
  rw [ix_last (by simp)]
  simp
theorem set_last {α : Type} (xs : List α) (x y : α) : (xs ++ [x]).set ((xs ++ [x]).length - 1) y = xs ++ [y] := by
  simp
theorem mxi (i j : Int) : (if j > i then j else i) = max i j := by
  split <;> omega
theorem mni (i j : Int) : (if j < i then j else i) = min i j := by
  split <;> omega
/-! ### comprehensions that make nothing but their list -/
theorem lc_leaf {H1 : Hp} {D : Addr} {acc : List V} {y : V} {N : Hp → Prop} {i : Nat} (hl : acc.length ≤ i) (hi : i < 100000) (hN : N (upd H1 D (.lst (acc ++ [y])))) :
    ∃ acc', upd H1 D (.lst acc) D = some (.lst acc') ∧ acc'.length < sizeLine ∧ N (upd (upd H1 D (.lst acc)) D (.lst (acc' ++ [y]))) :=
  ⟨acc, upd_same, by rw [sizeLine_eq]; omega, by rw [upd_upd]; exact hN⟩
theorem lc_flt {K : PySem.W.Frag} {a : Addr} {xs : List V} {g : TG} {tt : TT} {te : TE} {vs : List Nat} {σ : L2.St} {H1 : Hp} {Qf : Addr → Hp → Prop} (f : V → Option V) (hx : SqL K H1 a xs) (hz : xs.length < 100000)
    (hs : ∀ (D : Addr) i x (N : Hp → Prop) acc, Fr H1 D → i < 100000 → xs[i]? = some x → acc.length ≤ i → (∀ y, f x = some y → N (upd H1 D (.lst (acc ++ [y])))) → (f x = none → N (upd H1 D (.lst acc))) →
      g x (wipe σ vs) (upd H1 D (.lst acc)) fun σ2 H2 => wipe σ2 vs = wipe σ vs ∧ tt σ2 H2 fun b H3 =>
        if b = true then te σ2 H3 fun y H4 => ∃ acc, H4 D = some (.lst acc) ∧ acc.length < sizeLine ∧ N (upd H4 D (.lst (acc ++ [y]))) else N H3)
    (hd : ∀ D, Fr H1 D → Qf D (upd H1 D (.lst (xs.filterMap f)))) :
    ∀ D, Fr H1 D → ∃ W : Nat → Nat → Hp → Prop, (∃ m, W 0 m (upd H1 D (.lst []))) ∧ ∀ i m H, W i m H →
      ((Itl K a).stop i H ∧ Qf D H) ∨ ((Itl K a).go i H ∧ ∃ Nx : Hp → Prop, (∀ H', Nx H' → ∃ m', m' < m ∧ W (i + 1) m' H') ∧ ∀ x H', (Itl K a).yld i H x H' → g x (wipe σ vs) H' fun σ2 H2 => wipe σ2 vs = wipe σ vs ∧ tt σ2 H2 fun b H3 =>
        if b = true then te σ2 H3 fun y H4 => ∃ acc, H4 D = some (.lst acc) ∧ acc.length < sizeLine ∧ Nx (upd H4 D (.lst (acc ++ [y]))) else Nx H3) := fun D hD => by
  refine lc_list (K := K) (a := a) (xs := xs) (fun i H => H = upd H1 D (.lst ((xs.take i).filterMap f))) rfl (fun i H _ e => by rw [e]; exact (same_new hD).seq hx) (fun i x H hi e => ?_) fun H e => by rw [e, List.take_length]; exact hd D hD
  subst e
  have hi' := (List.getElem?_eq_some_iff.mp hi).1
  refine hs D i x _ _ hD (by omega) hi (Nat.le_trans (List.length_filterMap_le ..) (by rw [List.length_take]; omega)) (fun y hy => ?_) fun hy => ?_
  · rw [List.take_add_one, hi, List.filterMap_append]
    simp [hy]
  · rw [List.take_add_one, hi, List.filterMap_append]
    simp [hy]
/-! ### comprehensions whose parts may make new things -/
theorem lc_w {J : It} {n : Nat} {G : Hp → Prop} {Y : Nat → Hp → V → Hp → Prop} (w : Walk J n G Y) {g : TG} {tt : TT} {te : TE} {vs : List Nat} {σ : L2.St} {H1 : Hp} {Qf : Addr → Hp → Prop} (f : Nat → Option V) (hn : n < 100000) (hG : ∀ H, Same H1 H → G H)
    (hs : ∀ (D : Addr) i x H H' (N : Hp → Prop), Fr H1 D → i < n → Same H1 H → Y i H x H' → (∀ y H4, f i = some y → Same H H4 → ∃ acc, H4 D = some (.lst acc) ∧ acc.length < sizeLine ∧ N (upd H4 D (.lst (acc ++ [y])))) → (∀ H4, f i = none → Same H H4 → N H4) →
      g x (wipe σ vs) H' fun σ2 H2 => wipe σ2 vs = wipe σ vs ∧ tt σ2 H2 fun b H3 =>
        if b = true then te σ2 H3 fun y H4 => ∃ acc, H4 D = some (.lst acc) ∧ acc.length < sizeLine ∧ N (upd H4 D (.lst (acc ++ [y]))) else N H3)
    (hd : ∀ D H', Fr H1 D → Same H1 H' → H' D = some (.lst ((List.range n).filterMap f)) → Qf D H') :
    ∀ D, Fr H1 D → ∃ W : Nat → Nat → Hp → Prop, (∃ m, W 0 m (upd H1 D (.lst []))) ∧ ∀ i m H, W i m H →
      (J.stop i H ∧ Qf D H) ∨ (J.go i H ∧ ∃ Nx : Hp → Prop, (∀ H', Nx H' → ∃ m', m' < m ∧ W (i + 1) m' H') ∧ ∀ x H', J.yld i H x H' → g x (wipe σ vs) H' fun σ2 H2 => wipe σ2 vs = wipe σ vs ∧ tt σ2 H2 fun b H3 =>
        if b = true then te σ2 H3 fun y H4 => ∃ acc, H4 D = some (.lst acc) ∧ acc.length < sizeLine ∧ Nx (upd H4 D (.lst (acc ++ [y]))) else Nx H3) := fun D hD => by
  refine lc_it w (fun i H => Same H1 H ∧ H D = some (.lst ((List.range i).filterMap f))) ⟨same_new hD, upd_same⟩ (fun i H _ h => hG H h.1) (fun i x H H' hi h y => ?_) fun H h => hd D H hD h.1 h.2
  have hlen : ((List.range i).filterMap f).length ≤ i := Nat.le_trans (List.length_filterMap_le ..) (by rw [List.length_range]; omega)
  refine hs D i x H H' _ hD hi h.1 y (fun y H4 hy s => ⟨_, s _ _ h.2, by rw [sizeLine_eq]; omega, sm_own hD (h.1.trans s), ?_⟩) fun H4 hy s => ⟨h.1.trans s, ?_⟩
  · rw [upd_same, List.range_succ, List.filterMap_append]
    simp [hy]
  · rw [s _ _ h.2, List.range_succ, List.filterMap_append]
    simp [hy]
theorem range_flt' {α β : Type} (xs : List α) (g : α → Option β) (n : Nat) : (List.range n).filterMap (fun i => (xs[i]?).bind g) = (xs.take n).filterMap g := by
  induction n with
  | zero => simp
  | succ n ih =>
    rw [List.range_succ, List.filterMap_append, ih, List.take_add_one, List.filterMap_append]
    congr 1
    cases e : xs[n]? with
    | none => simp [e]
    | some x => cases e2 : g x <;> simp [e, e2]
theorem range_flt {α β : Type} (xs : List α) (g : α → Option β) : (List.range xs.length).filterMap (fun i => (xs[i]?).bind g) = xs.filterMap g := by
  rw [range_flt', List.take_length]
theorem range_all (n : Nat) : (List.range n).filterMap (fun _ => some (V.bl true)) = (List.replicate n true).map V.bl := by
  induction n with
  | zero => rfl
  | succ n ih => rw [List.range_succ, List.filterMap_append, ih, List.replicate_succ']; simp
theorem all_rep (n : Nat) : (List.replicate n true).all id = true := by
  rw [List.all_eq_true]
  intro x hx
  rw [(List.mem_replicate.mp hx).2]
  rfl
theorem prs_get {G : Hp} {xs : List V} {ts : List Pr} (h : PrsAt G xs ts) {v : V} (hv : v ∈ xs) : ∃ r ∈ ts, PrAt G v r := by
  obtain ⟨i, hi, e⟩ := List.mem_iff_getElem.mp hv
  obtain ⟨b, hb, q⟩ := Paired.getL h (List.getElem?_eq_some_iff.mpr ⟨hi, e⟩)
  exact ⟨b, List.mem_of_getElem? hb, q⟩
theorem prs_rev {G : Hp} {xs : List V} {ts : List Pr} (h : PrsAt G xs ts) : PrsAt G xs.reverse ts.reverse := by
  induction h with
  | nil => exact .nil
  | cons r t ih =>
    rw [List.reverse_cons, List.reverse_cons]
    exact prs_snoc ih r
/-- comprehensions whose items are new tuples, numbers, texts: R stays while the tuples stay -/
theorem lc_r {J : It} {n : Nat} {G : Hp → Prop} {Y : Nat → Hp → V → Hp → Prop} (w : Walk J n G Y) {g : TG} {tt : TT} {te : TE} {vs : List Nat} {σ : L2.St} {H1 : Hp} {Qf : Addr → Hp → Prop} {β : Type} (R : Hp → V → β → Prop) (hR : ∀ G G' v b, Tk G G' → R G v b → R G' v b) (f : Nat → Option β) (hn : n < 100000) (hG : ∀ H, Same H1 H → G H)
    (hs : ∀ (D : Addr) i x H H' (N : Hp → Prop), Fr H1 D → i < n → Same H1 H → Y i H x H' → (∀ y b H4, f i = some b → Same H H4 → R H4 y b → ∃ acc, H4 D = some (.lst acc) ∧ acc.length < sizeLine ∧ N (upd H4 D (.lst (acc ++ [y])))) → (∀ H4, f i = none → Same H H4 → N H4) →
      g x (wipe σ vs) H' fun σ2 H2 => wipe σ2 vs = wipe σ vs ∧ tt σ2 H2 fun b H3 =>
        if b = true then te σ2 H3 fun y H4 => ∃ acc, H4 D = some (.lst acc) ∧ acc.length < sizeLine ∧ N (upd H4 D (.lst (acc ++ [y]))) else N H3)
    (hd : ∀ D H' ys, Fr H1 D → Same H1 H' → H' D = some (.lst ys) → Paired (R H') ys ((List.range n).filterMap f) → Qf D H') :
    ∀ D, Fr H1 D → ∃ W : Nat → Nat → Hp → Prop, (∃ m, W 0 m (upd H1 D (.lst []))) ∧ ∀ i m H, W i m H →
      (J.stop i H ∧ Qf D H) ∨ (J.go i H ∧ ∃ Nx : Hp → Prop, (∀ H', Nx H' → ∃ m', m' < m ∧ W (i + 1) m' H') ∧ ∀ x H', J.yld i H x H' → g x (wipe σ vs) H' fun σ2 H2 => wipe σ2 vs = wipe σ vs ∧ tt σ2 H2 fun b H3 =>
        if b = true then te σ2 H3 fun y H4 => ∃ acc, H4 D = some (.lst acc) ∧ acc.length < sizeLine ∧ Nx (upd H4 D (.lst (acc ++ [y]))) else Nx H3) := fun D hD => by
  refine lc_it w (fun i H => Same H1 H ∧ ∃ acc, H D = some (.lst acc) ∧ Paired (R H) acc ((List.range i).filterMap f)) ⟨same_new hD, [], upd_same, .nil⟩ (fun i H _ h => hG H h.1) (fun i x H H' hi ⟨sm, acc, ha, hp⟩ y => ?_) fun H ⟨sm, acc, ha, hp⟩ => hd D H acc hD sm ha hp
  have hlen : acc.length ≤ i := by
    rw [Paired.length hp]
    exact Nat.le_trans (List.length_filterMap_le ..) (by rw [List.length_range]; omega)
  refine hs D i x H H' _ hD hi sm y (fun y b H4 hb s r => ⟨acc, s _ _ ha, by rw [sizeLine_eq]; omega, sm_own hD (sm.trans s), acc ++ [y], upd_same, ?_⟩) fun H4 hb s => ⟨sm.trans s, acc, s _ _ ha, ?_⟩
  · have tk : Tk H4 (upd H4 D (.lst (acc ++ [y]))) := tk_put (s _ _ ha)
    rw [List.range_succ, List.filterMap_append]
    refine Paired.app (Paired.mapP hp fun _ _ q => hR _ _ _ _ ((Same.tk s).trans tk) q) ?_
    simp only [List.filterMap_cons, hb, List.filterMap_nil]
    exact .cons (hR _ _ _ _ tk r) .nil
  · rw [List.range_succ, List.filterMap_append]
    simp only [List.filterMap_cons, hb, List.filterMap_nil, List.append_nil]
    exact Paired.mapP hp fun _ _ q => hR _ _ _ _ (Same.tk s) q
/-- comprehensions of drawn numbers -/
theorem lc_d {t b s : Addr} {lo : Int} {n : Nat} {g : TG} {tt : TT} {te : TE} {vs : List Nat} {σ : L2.St} {H1 : Hp} {Qf : Addr → Hp → Prop} (T1 : Tape H1 t b s) (P : Int → Prop) (hn : n < 100000)
    (hs : ∀ (D : Addr) i H (N : Hp → Prop) acc, Fr H1 D → i < n → Tape H t b s → H D = some (.lst acc) → D ∉ [t, b] → (∀ z H4, P z → Tape H4 t b s → Kp [t, b] H H4 → ∃ acc, H4 D = some (.lst acc) ∧ acc.length < sizeLine ∧ N (upd H4 D (.lst (acc ++ [.int z])))) →
      g (.int (lo + i)) (wipe σ vs) H fun σ2 H2 => wipe σ2 vs = wipe σ vs ∧ tt σ2 H2 fun b H3 =>
        if b = true then te σ2 H3 fun y H4 => ∃ acc, H4 D = some (.lst acc) ∧ acc.length < sizeLine ∧ N (upd H4 D (.lst (acc ++ [y]))) else N H3)
    (hd : ∀ D H' (ns : List Int), Fr H1 D → Tape H' t b s → Kp [t, b] H1 H' → H' D = some (.lst (ns.map V.int)) → ns.length = n → (∀ z ∈ ns, P z) → Qf D H') :
    ∀ D, Fr H1 D → ∃ W : Nat → Nat → Hp → Prop, (∃ m, W 0 m (upd H1 D (.lst []))) ∧ ∀ i m H, W i m H →
      ((Itr lo n).stop i H ∧ Qf D H) ∨ ((Itr lo n).go i H ∧ ∃ Nx : Hp → Prop, (∀ H', Nx H' → ∃ m', m' < m ∧ W (i + 1) m' H') ∧ ∀ x H', (Itr lo n).yld i H x H' → g x (wipe σ vs) H' fun σ2 H2 => wipe σ2 vs = wipe σ vs ∧ tt σ2 H2 fun b H3 =>
        if b = true then te σ2 H3 fun y H4 => ∃ acc, H4 D = some (.lst acc) ∧ acc.length < sizeLine ∧ Nx (upd H4 D (.lst (acc ++ [y]))) else Nx H3) := fun D hD => by
  have nD : D ∉ [t, b] := ni_tape hD T1
  refine lc_it walk_range (fun i H => Tape H t b s ∧ Kp [t, b] H1 H ∧ ∃ ns : List Int, H D = some (.lst (ns.map V.int)) ∧ ns.length = i ∧ ∀ z ∈ ns, P z) ⟨tape_new hD T1, kp_own hD (Kp.refl _ _), [], upd_same, rfl, by simp⟩ (fun i H _ h => trivial) (fun i x H H' hi ⟨T, k, ns, ha, hl, hp⟩ y => ?_) fun H ⟨T, k, ns, ha, hl, hp⟩ => hd D H ns hD T k ha hl hp
  obtain ⟨rfl, rfl⟩ := y
  refine hs D i H' _ _ hD hi T ha nD fun z H4 hz T4 k4 => ⟨ns.map V.int, k4 _ _ ha nD, by rw [List.length_map, sizeLine_eq]; omega, tape_own hD T1 T4, kp_own hD (k.trans k4), ns ++ [z], by rw [upd_same, List.map_append]; rfl, by simp [hl], fun x hx => ?_⟩
  rcases List.mem_append.mp hx with hx | hx
  · exact hp x hx
  · rw [List.mem_singleton.mp hx]; exact hz
theorem Paired.take {α β : Type} {F : α → β → Prop} : ∀ (n : Nat) {as : List α} {bs : List β}, Paired F as bs → Paired F (as.take n) (bs.take n)
  | 0, _, _, _ => .nil
  | n + 1, _, _, .nil => .nil
  | n + 1, _, _, .cons r t => .cons r (Paired.take n t)
theorem Paired.drop {α β : Type} {F : α → β → Prop} : ∀ (n : Nat) {as : List α} {bs : List β}, Paired F as bs → Paired F (as.drop n) (bs.drop n)
  | 0, _, _, h => h
  | n + 1, _, _, .nil => .nil
  | n + 1, _, _, .cons r t => Paired.drop n t
end Y
/-! Y1: the law's tape and its draws. -/
namespace Y
open PySem PySem.Spec PyProof.Rows L2
/-! steps: a heap's facts (at), a list's or tuple's (sq), side questions (sd), one step (s1), many (ss) -/
local macro_rules | `(tactic| walk_at "tp") => `(tactic| first
  | with_reducible assumption
  | ((with_reducible refine' Y.tape_new ?n0 ?n1); (case n0 => with_reducible assumption); (case n1 => walk_at "tp"))
  | ((with_reducible refine' Y.tape_same ?n0 ?n1); (case n0 => with_reducible assumption); (case n1 => walk_at "tp"))
  | ((with_reducible refine' Y.tape_own ?n0 ?n1 ?n2); (case n0 => with_reducible assumption); (case n1 => walk_at "tp"); (case n2 => walk_at "tp"))
  | fail)
local macro_rules | `(tactic| walk_at "ni") => `(tactic| first
  | with_reducible assumption
  | ((with_reducible refine' Y.ni_tape ?n0 ?n1); (case n0 => with_reducible assumption); (case n1 => walk_at "tp"))
  | fail)
local macro_rules | `(tactic| walk_at "at0") => `(tactic| first
  | with_reducible assumption
  | with_reducible exact upd_same
  | ((with_reducible refine' Y.at_new ?n0 ?n1); (case n0 => with_reducible assumption); (case n1 => walk_at "at0"))
  | ((with_reducible refine' Y.get_same ?n0 ?n1); (case n0 => with_reducible assumption); (case n1 => walk_at "at0"))
  | ((with_reducible refine' Y.get_kp ?n0 ?n1 ?n2); (case n0 => with_reducible assumption); (case n1 => walk_at "at0"); (case n2 => walk_at "ni"))
  | fail)
local macro_rules | `(tactic| walk_at "ne") => `(tactic| first
  | assumption
  | exact Ne.symm (by assumption)
  | ((with_reducible refine' Y.ne_new ?n0 ?n1); (case n0 => with_reducible assumption); (case n1 => walk_at "at"))
  | ((with_reducible refine' Y.ne_new' ?n0 ?n1); (case n0 => with_reducible assumption); (case n1 => walk_at "at"))
  | fail)
local macro_rules | `(tactic| walk_at "sm") => `(tactic| first
  | with_reducible assumption
  | with_reducible exact Same.refl _
  | ((with_reducible refine' Y.sm_new ?n0 ?n1); (case n0 => with_reducible assumption); (case n1 => walk_at "sm"))
  | ((with_reducible refine' Y.sm_own ?n0 ?n1); (case n0 => with_reducible assumption); (case n1 => walk_at "sm"))
  | ((with_reducible refine' Y.sm_tr ?n0 ?n1); (case n0 => with_reducible assumption); (case n1 => walk_at "sm"))
  | fail)
local macro_rules | `(tactic| walk_at "kp") => `(tactic| first
  | with_reducible assumption
  | with_reducible exact Y.Kp.refl _ _
  | ((with_reducible refine' Y.kp_own ?n0 ?n1); (case n0 => with_reducible assumption); (case n1 => walk_at "kp"))
  | ((with_reducible refine' Y.kp_new ?n0 ?n1); (case n0 => with_reducible assumption); (case n1 => walk_at "kp"))
  | ((with_reducible refine' Y.kp_tr ?n0 ?n1); (case n0 => with_reducible assumption); (case n1 => walk_at "kp"))
  | ((with_reducible refine' Y.kp_sm ?n0 ?n1); (case n0 => with_reducible assumption); (case n1 => walk_at "kp"))
  | fail)
local macro_rules | `(tactic| walk_at "fr") => `(tactic| first
  | with_reducible assumption
  | ((with_reducible refine' Y.fr_new ?n0); (case n0 => with_reducible assumption))
  | ((with_reducible refine' Y.fr_of ?n0 ?n1); (case n0 => with_reducible assumption); (case n1 => walk_at "sm"))
  | fail)
local macro_rules | `(tactic| walk_at "at") => `(tactic| first
  | with_reducible assumption
  | with_reducible exact upd_same
  | ((with_reducible refine' Y.at_new ?n0 ?n1); (case n0 => with_reducible assumption); (case n1 => walk_at "at"))
  | ((with_reducible refine' Y.at_ne ?n0 ?n1); (case n0 => walk_at "ne"); (case n1 => walk_at "at"))
  | ((with_reducible refine' Y.get_same ?n0 ?n1); (case n0 => with_reducible assumption); (case n1 => walk_at "at"))
  | ((with_reducible refine' Y.get_kp ?n0 ?n1 ?n2); (case n0 => with_reducible assumption); (case n1 => walk_at "at"); (case n2 => walk_at "ni"))
  | ((with_reducible refine' Y.at_tk ?n0 ?n1 ?n2); (case n0 => with_reducible assumption); (case n1 => walk_at "tp"); (case n2 => walk_at "at"))
  | fail)
local macro_rules | `(tactic| walk_at "pr") => `(tactic| first
  | with_reducible assumption
  | ((with_reducible refine' Y.pr_of ?n0); (case n0 => walk_at "at"))
  | ((with_reducible refine' Y.pr_new ?n0 ?n1); (case n0 => with_reducible assumption); (case n1 => walk_at "pr"))
  | ((with_reducible refine' Y.pr_put ?n0 ?n1); (case n0 => walk_at "at"); (case n1 => walk_at "pr"))
  | ((with_reducible refine' Y.pr_same ?n0 ?n1); (case n0 => with_reducible assumption); (case n1 => walk_at "pr"))
  | ((with_reducible refine' Y.pr_kp ?n0 ?n2 ?n1); (case n0 => with_reducible assumption); (case n2 => walk_at "tp"); (case n1 => walk_at "pr"))
  | fail)
local macro_rules | `(tactic| walk_at "prs") => `(tactic| first
  | with_reducible assumption
  | with_reducible exact Y.prs_nil
  | ((with_reducible refine' Y.prs_snoc ?n0 ?n1); (case n0 => walk_at "prs"); (case n1 => walk_at "pr"))
  | ((with_reducible refine' Y.prs_cons ?n0 ?n1); (case n0 => walk_at "pr"); (case n1 => walk_at "prs"))
  | ((with_reducible refine' Y.prs_rev ?n0); (case n0 => walk_at "prs"))
  | ((with_reducible refine' Y.prs_app ?n0 ?n1); (case n0 => walk_at "prs"); (case n1 => walk_at "prs"))
  | ((with_reducible refine' Y.prs_new ?n0 ?n1); (case n0 => with_reducible assumption); (case n1 => walk_at "prs"))
  | ((with_reducible refine' Y.prs_put ?n0 ?n1); (case n0 => walk_at "at"); (case n1 => walk_at "prs"))
  | ((with_reducible refine' Y.prs_same ?n0 ?n1); (case n0 => with_reducible assumption); (case n1 => walk_at "prs"))
  | ((with_reducible refine' Y.prs_kp ?n0 ?n2 ?n1); (case n0 => with_reducible assumption); (case n2 => walk_at "tp"); (case n1 => walk_at "prs"))
  | fail)
local macro_rules | `(tactic| walk_at "up") => `(tactic| first
  | with_reducible assumption
  | with_reducible exact Y.up_nil
  | ((with_reducible refine' Y.Can.up ?n0); (case n0 => with_reducible assumption))
  | ((with_reducible refine' Y.up_rev ?n0); (case n0 => walk_at "up"))
  | ((with_reducible refine' Y.up_app ?n0 ?n1); (case n0 => walk_at "up"); (case n1 => walk_at "up"))
  | fail)
local macro_rules | `(tactic| walk_at "sq") => `(tactic| first
  | assumption
  | (refine' SqL.of ?n0; (case n0 => walk_at "at"))
  | (refine' SqT.of ?n0; (case n0 => walk_at "at"))
  | ((with_reducible refine' Y.sql_new ?n0 ?n1); (case n0 => with_reducible assumption); (case n1 => walk_at "sq"))
  | ((with_reducible refine' Y.sql_same ?n0 ?n1); (case n0 => with_reducible assumption); (case n1 => walk_at "sq"))
  | ((with_reducible refine' Y.sqt_new ?n0 ?n1); (case n0 => with_reducible assumption); (case n1 => walk_at "sq"))
  | ((with_reducible refine' Y.sqt_same ?n0 ?n1); (case n0 => with_reducible assumption); (case n1 => walk_at "sq"))
  | ((with_reducible refine' Y.sq_or ?n0); (case n0 => walk_at "at"))
  | ((with_reducible refine' Y.sq_orT ?n0); (case n0 => walk_at "at"))
  | ((with_reducible refine' Or.inl ?n0); (case n0 => walk_at "sq"))
  | ((with_reducible refine' Or.inr ?n0); (case n0 => walk_at "sq"))
  | fail)
local macro_rules | `(tactic| walk_at "dp") => `(tactic| first
  | assumption
  | exact Dp.int _
  | exact Dp.str _
  | exact Dp.bl _
  | exact Dp.non
  | (refine' Dp.tup ?s0 ?a0; (case s0 => walk_at "sq"); (case a0 => walk_at "dpa"))
  | (refine' Dp.lst ?s0 ?a0; (case s0 => walk_at "sq"); (case a0 => walk_at "dpa"))
  | fail)
local macro_rules | `(tactic| walk_at "dpa") => `(tactic| first
  | exact DpAll.nil
  | exact Y.dp_ints _
  | (refine' DpAll.cons ?a0 ?b0; (case a0 => walk_at "dp"); (case b0 => walk_at "dpa"))
  | fail)
local macro_rules | `(tactic| walk_at "sh") => `(tactic| first
  | assumption
  | exact ⟨by simp [PyData.canLay0, PyData.canLayAll0], by simp [PyData.depth, PyData.depthAll]⟩
  | fail)
local macro_rules | `(tactic| walk_at "sd") => `(tactic| ((try dsimp only); first
  | omega
  | assumption
  | exact rfl
  | decide
  | exact Or.inl ⟨by omega, by omega⟩
  | exact Or.inr ⟨by omega, by omega⟩
  | exact ⟨by first | assumption | omega | decide, by first | assumption | omega | decide⟩
  | exact ⟨by decide, by decide, by decide⟩
  | (simp only [List.length_map, List.length_append, List.length_cons, List.length_nil, List.length_singleton, List.length_reverse, sizeLine_eq]; omega)
  | fail))
local macro_rules | `(tactic| walk_at "rf") => `(tactic| exact rfl)
local macro_rules | `(tactic| walk_at "ai") => `(tactic| first
  | assumption
  | ((with_reducible refine' Y.at_k0 ?r); (case r => exact rfl))
  | ((with_reducible refine' Y.at_k1 ?r); (case r => exact rfl))
  | ((with_reducible refine' Y.at_k2 ?r); (case r => exact rfl))
  | ((with_reducible refine' Y.at_k3 ?r); (case r => exact rfl))
  | ((with_reducible refine' Y.at_k4 ?r); (case r => exact rfl))
  | ((with_reducible refine' Y.at_k5 ?r); (case r => exact rfl))
  | ((with_reducible refine' Y.at_k6 ?r); (case r => exact rfl))
  | ((with_reducible refine' Y.at_k7 ?r); (case r => exact rfl))
  | ((with_reducible refine' Y.atI_map ?r); (case r => assumption))
  | ((with_reducible refine' Y.ix_k0 ?r); (case r => walk_at "sd"))
  | ((with_reducible refine' Y.ix_k1 ?r); (case r => walk_at "sd"))
  | ((with_reducible refine' Y.ix_k2 ?r); (case r => walk_at "sd"))
  | ((with_reducible refine' Y.ix_k3 ?r); (case r => walk_at "sd"))
  | (with_reducible exact Y.at_last _ _)
  | ((with_reducible refine' Y.ix_last ?r); (case r => walk_at "sd"))
  | ((with_reducible refine' Y.ix_zero ?r); (case r => simp))
  | fail)
local macro_rules | `(tactic| walk_at "isi") => `(tactic| first
  | (with_reducible refine Y.g_isi_int_int ?_)
  | (with_reducible refine Y.g_isi_int_bool ?_)
  | (with_reducible refine Y.g_isi_int_str ?_)
  | (with_reducible refine Y.g_isi_int_list ?_)
  | (with_reducible refine Y.g_isi_int_tuple ?_)
  | (with_reducible refine Y.g_isi_bl_int ?_)
  | (with_reducible refine Y.g_isi_bl_bool ?_)
  | (with_reducible refine Y.g_isi_bl_str ?_)
  | (with_reducible refine Y.g_isi_bl_list ?_)
  | (with_reducible refine Y.g_isi_bl_tuple ?_)
  | (with_reducible refine Y.g_isi_str_int ?_)
  | (with_reducible refine Y.g_isi_str_bool ?_)
  | (with_reducible refine Y.g_isi_str_str ?_)
  | (with_reducible refine Y.g_isi_str_list ?_)
  | (with_reducible refine Y.g_isi_str_tuple ?_)
  | (with_reducible refine Y.g_isi_non_int ?_)
  | (with_reducible refine Y.g_isi_non_bool ?_)
  | (with_reducible refine Y.g_isi_non_str ?_)
  | (with_reducible refine Y.g_isi_non_list ?_)
  | (with_reducible refine Y.g_isi_non_tuple ?_)
  | ((with_reducible refine' Y.g_isi_lst_int ?h ?_); (case h => walk_at "at"))
  | ((with_reducible refine' Y.g_isi_lst_bool ?h ?_); (case h => walk_at "at"))
  | ((with_reducible refine' Y.g_isi_lst_str ?h ?_); (case h => walk_at "at"))
  | ((with_reducible refine' Y.g_isi_lst_list ?h ?_); (case h => walk_at "at"))
  | ((with_reducible refine' Y.g_isi_lst_tuple ?h ?_); (case h => walk_at "at"))
  | ((with_reducible refine' Y.g_isi_tup_int ?h ?_); (case h => walk_at "at"))
  | ((with_reducible refine' Y.g_isi_tup_bool ?h ?_); (case h => walk_at "at"))
  | ((with_reducible refine' Y.g_isi_tup_str ?h ?_); (case h => walk_at "at"))
  | ((with_reducible refine' Y.g_isi_tup_list ?h ?_); (case h => walk_at "at"))
  | ((with_reducible refine' Y.g_isi_tup_tuple ?h ?_); (case h => walk_at "at"))
  | fail)
local macro_rules | `(tactic| walk_at "s1") => `(tactic| first
  | ((with_reducible refine' Y.g_var ?h ?_); (case h => exact rfl))
  | (with_reducible refine Y.g_c ?_)
  | (with_reducible refine Y.g_op ?_)
  | (with_reducible refine Y.g_cons ?_)
  | (with_reducible refine Y.g_nil ?_)
  | (with_reducible refine Y.g_test ?_)
  | (with_reducible refine Y.g_cb ?_)
  | (with_reducible refine Y.g_seqA ?_)
  | (with_reducible refine Y.g_seqR ?_)
  | (with_reducible refine Y.g_seqD ?_)
  | (with_reducible refine Y.g_seqF ?_)
  | (with_reducible refine Y.g_seqW ?_)
  | (with_reducible refine Y.g_seqP ?_)
  | (with_reducible refine Y.g_asg ?_)
  | (with_reducible refine Y.g_name ?_)
  | (with_reducible refine Y.g_ifS ?_)
  | (with_reducible refine Y.g_pow6 ?_)
  | (with_reducible refine Y.g_pow9 ?_)
  | (with_reducible refine Y.g_pow12 ?_)
  | (with_reducible refine Y.g_pow18 ?_)
  | (with_reducible refine Y.g_pow60 ?_)
  | ((with_reducible refine Y.g_rI ?c ?_); (case c => walk_at "sd"))
  | ((with_reducible refine Y.g_eq ?c ?_); (case c => walk_at "rf"))
  | ((with_reducible refine Y.g_ne ?c ?_); (case c => walk_at "rf"))
  | ((with_reducible refine' Y.g_ixL ?h ?a ?_); (case h => walk_at "sq"); (case a => walk_at "ai"))
  | ((with_reducible refine' Y.g_pick2 ?h ?a ?b fun v hv => ?_); (case h => walk_at "sq"); (case a => assumption); (case b => assumption))
  | ((with_reducible refine' Y.g_pick3 ?h ?a ?b fun v hv => ?_); (case h => walk_at "sq"); (case a => assumption); (case b => assumption))
  | ((with_reducible refine' Y.g_pick4 ?h ?a ?b fun v hv => ?_); (case h => walk_at "sq"); (case a => assumption); (case b => assumption))
  | ((with_reducible refine' Y.g_pick5 ?h ?a ?b fun v hv => ?_); (case h => walk_at "sq"); (case a => assumption); (case b => assumption))
  | ((with_reducible refine' Y.g_pick6 ?h ?a ?b fun v hv => ?_); (case h => walk_at "sq"); (case a => assumption); (case b => assumption))
  | ((with_reducible refine' Y.g_pick7 ?h ?a ?b fun v hv => ?_); (case h => walk_at "sq"); (case a => assumption); (case b => assumption))
  | ((with_reducible refine' Y.g_pick8 ?h ?a ?b fun v hv => ?_); (case h => walk_at "sq"); (case a => assumption); (case b => assumption))
  | ((with_reducible refine' Y.g_pick9 ?h ?a ?b fun v hv => ?_); (case h => walk_at "sq"); (case a => assumption); (case b => assumption))
  | ((with_reducible refine' Y.g_ixT ?h ?a ?_); (case h => walk_at "sq"); (case a => walk_at "ai"))
  | ((with_reducible refine' Y.g_setL ?h ?a ?_); (case h => walk_at "at"); (case a => walk_at "ai"))
  | ((with_reducible refine' Y.g_len ?h ?_); (case h => walk_at "sq"))
  | (with_reducible refine Y.g_call ?_)
  | (with_reducible refine Y.g_tB ?_)
  | (with_reducible refine Y.g_un ?_)
  | (with_reducible refine Y.g_if ?_)
  | (with_reducible refine Y.g_and ?_)
  | (with_reducible refine Y.g_or ?_)
  | (with_reducible refine Y.g_not ?_)
  | (with_reducible refine Y.g_tTup ?_)
  | (with_reducible refine Y.g_tLst ?_)
  | (with_reducible refine Y.g_sl ?_)
  | (with_reducible refine Y.g_pt ?_)
  | (with_reducible refine Y.g_np ?_)
  | (with_reducible refine Y.g_bm ?_)
  | (with_reducible refine Y.g_bm0 ?_)
  | (with_reducible refine Y.g_andV ?_)
  | (with_reducible refine Y.g_orV ?_)
  | (with_reducible refine Y.g_notV ?_)
  | (with_reducible refine Y.g_chain ?_)
  | (with_reducible refine Y.g_ret ?_)
  | (with_reducible refine Y.g_drop ?_)
  | (with_reducible refine Y.g_next ?_)
  | (with_reducible refine Y.g_sub ?_)
  | (with_reducible refine Y.g_gcons ?_)
  | (with_reducible refine Y.g_gnil ?_)
  | (with_reducible refine Y.g_par ?_)
  | (with_reducible refine Y.g_yes ?_)
  | (with_reducible refine Y.g_truth ?_)
  | (with_reducible refine Y.g_lstRg ?_)
  | (with_reducible refine Y.g_rg2 ?_)
  | (with_reducible refine Y.g_rg1 ?_)
  | (with_reducible refine Y.g_exII ?_)
  | (with_reducible refine Y.g_exI ?_)
  | (with_reducible refine Y.g_rng1 ?_)
  | (with_reducible refine Y.g_rng2 ?_)
  | (with_reducible refine Y.g_iList ?_)
  | (with_reducible refine Y.g_iTup ?_)
  | (with_reducible refine Y.g_for ?_)
  | (with_reducible refine Y.g_lc ?_)
  | (with_reducible refine Y.g_rI0 ?_)
  | (with_reducible refine Y.g_isN ?_)
  | (with_reducible refine Y.g_notN ?_)
  | (with_reducible refine Y.g_abs ?_)
  | (with_reducible refine Y.g_neg ?_)
  | (with_reducible refine Y.g_max2 ?_)
  | (with_reducible refine Y.g_min2 ?_)
  | (with_reducible refine Y.g_bl ?_)
  | ((with_reducible refine' Y.g_slL ?h fun p hp => ?_); (case h => walk_at "sq"))
  | ((with_reducible refine' Y.g_extend ?h ?h2 ?z ?_); (case h => walk_at "at"); (case h2 => walk_at "at"); (case z => walk_at "sd"))
  | ((with_reducible refine' Y.g_cat ?h ?h2 ?z fun l hl => ?_); (case h => walk_at "at"); (case h2 => walk_at "at"); (case z => walk_at "sd"))
  | ((with_reducible refine' Y.g_less ?h ?pp ?l ?u ?h2 ?pp2 ?l2 ?u2 fun p H' ys us hs hf ha hp hc hd hn => ?_); (case h => walk_at "sq"); (case pp => walk_at "prs"); (case l => walk_at "sd"); (case u => walk_at "up"); (case h2 => walk_at "sq"); (case pp2 => walk_at "prs"); (case l2 => walk_at "sd"); (case u2 => walk_at "up"))
  | (with_reducible refine Y.g_Lwhole ?_)
  | ((with_reducible refine' Y.g_Lstr ?T ?c0 ?c1 fun p H' ys ts T' k' hf ha hp hk hn => ?_); (case T => walk_at "tp"); (case c0 => walk_at "sd"); (case c1 => walk_at "sd"))
  | ((with_reducible refine' Y.g_Lstr ?T ?c0 fun p H' ys ts T' k' hf ha hp hk hn => ?_); (case T => walk_at "tp"); (case c0 => exact ⟨by omega, by omega, by omega, by omega⟩))
  | ((with_reducible refine' Y.g_Lprices ?T fun p H' ns T' k' hf ha hn => ?_); (case T => walk_at "tp"))
  | (with_reducible refine Y.g_rng3 ?_)
  | (with_reducible refine Y.g_revS ?_)
  | ((with_reducible refine' Y.g_revSb ?h fun l hl => ?_); (case h => walk_at "sq"))
  | (with_reducible refine Y.g_iZip ?_)
  | ((with_reducible refine' Y.g_iZipb ?h ?h2 ?_); (case h => walk_at "sq"); (case h2 => walk_at "sq"))
  | ((with_reducible refine' Y.g_listOf ?h fun p hp => ?_); (case h => walk_at "sq"))
  | ((with_reducible refine' Y.g_append ?h ?z ?_); (case h => walk_at "at"); (case z => walk_at "sd"))
  | ((with_reducible refine Y.g_sz ?z fun p hp => ?_); (case z => walk_at "sd"))
  | ((with_reducible refine' Y.g_gtup ?h ?l ?_); (case h => walk_at "sq"); (case l => walk_at "rf"))
  | ((with_reducible refine' Y.g_tyL ?h ?_); (case h => walk_at "sq"))
  | ((with_reducible refine Y.g_rng1b ?a ?b ?_); (case a => walk_at "sd"); (case b => walk_at "sd"))
  | ((with_reducible refine Y.g_rng2b ?a ?_); (case a => walk_at "sd"))
  | ((with_reducible refine' Y.g_iListb ?h ?_); (case h => walk_at "sq"))
  | ((with_reducible refine' Y.g_iTupb ?h ?_); (case h => walk_at "sq"))
  | ((with_reducible refine' Y.g_draw ?T ?c0 ?c9 fun v H' h0 h1 T' k' => ?_); (case T => walk_at "tp"); (case c0 => walk_at "sd"); (case c9 => walk_at "sd"))
  | ((with_reducible refine' Y.g_tape ?h ?l fun t b s H' hs ht hb hz T => ?_); (case h => assumption); (case l => assumption))
  | ((with_reducible refine' Y.g_Lstr ?T ?c0 ?c9 fun p H' ys ts T' k' hf ha hp hk hn => ?_); (case T => walk_at "tp"); (case c0 => walk_at "sd"); (case c9 => walk_at "sd"))
  | ((with_reducible refine' Y.g_has_day ?h ?p ?l fun H' hs => ?_); (case h => walk_at "sq"); (case p => walk_at "prs"); (case l => walk_at "sd"))
  | ((with_reducible refine' Y.g_Lhas ?h ?p ?l fun H' hs => ?_); (case h => walk_at "sq"); (case p => walk_at "prs"); (case l => walk_at "sd"))
  | ((with_reducible refine' Y.g_Ltwo ?pp ?_); (case pp => walk_at "pr"))
  | ((with_reducible refine' Y.g_Lrising ?h ?p ?c ?l fun H' hs => ?_); (case h => walk_at "at"); (case p => walk_at "prs"); (case c => assumption); (case l => walk_at "sd"))
  | ((with_reducible refine' Y.g_spread ?h ?p ?l ?u fun p H' ys us hs hf ha hp hc hd hn hx hy => ?_); (case h => walk_at "sq"); (case p => walk_at "prs"); (case l => walk_at "sd"); (case u => walk_at "up"))
  | ((with_reducible refine' Y.g_sortedP ?h ?p fun p ys us hp hy hq hw => ?_); (case h => walk_at "sq"); (case p => walk_at "prs"))
  | ((with_reducible refine' Y.g_neD_prs ?h ?h2 ?t ?u ?_); (case h => walk_at "sq"); (case h2 => walk_at "sq"); (case t => walk_at "prs"); (case u => walk_at "prs"))
  | ((with_reducible refine' Y.g_eqD_prs ?h ?h2 ?t ?u ?_); (case h => walk_at "sq"); (case h2 => walk_at "sq"); (case t => walk_at "prs"); (case u => walk_at "prs"))
  | walk_at "isi"
  | ((with_reducible refine' Y.g_nights ?h ?b fun p H' hs hp he => ?_); (case h => walk_at "sq"); (case b => exact ⟨by omega, by omega, by omega, by omega⟩))
  | ((with_reducible refine Y.g_wipe ?h ?_); (case h => exact rfl))
  | (with_reducible refine iteT ?_)
  | (with_reducible refine iteF ?_)
  | (with_reducible refine Y.ite_nt ?_)
  | (with_reducible refine Y.ite_nf ?_)
  | fail)
local macro_rules | `(tactic| walk_at "ss") => `(tactic| repeat walk_at "s1")
local macro_rules | `(tactic| walk_at "st") => `(tactic| repeat (first | walk_at "s1" | (with_reducible refine Y.g_seq ?_)))
def sp_Ldraw (K : PySem.W.Frag) : Sp := Sp2 fun x y H Q E => ∃ (t b s : Addr) (m : Int), x = .ref t ∧ y = .int m ∧ Tape H t b s ∧ 0 < m ∧ m.natAbs.log2 < 9000 ∧
  ∀ (v : Int) (H' : Hp), 0 ≤ v → v < m → Tape H' t b s → Kp [t, b] H H' → Q (.int v) H'
def sp_Ltape (K : PySem.W.Frag) : Sp := Sp1 fun x H Q E => ∃ (a : Addr) (ns : List Int), x = .ref a ∧ SqL K H a (ns.map V.int) ∧ ns.length ≤ 63 ∧
  ∀ (t b s : Addr) (H' : Hp), Same H H' → Fr H t → Fr H b → Fr H s → Tape H' t b s → Q (.ref t) H'
theorem g_draw {K : PySem.W.Frag} {t b s : Addr} {m : Int} {H : Hp} {Q : VK} {E : XK} (T : Tape H t b s) (h0 : 0 < m) (h9 : m < 2 ^ 250) (q : ∀ (v : Int) (H' : Hp), 0 ≤ v → v < m → Tape H' t b s → Kp [t, b] H H' → Q (.int v) H') : sp_Ldraw K ([.ref t, .int m] ++ []) H Q E :=
  ⟨_, _, rfl, t, b, s, m, rfl, rfl, T, h0, log9 h0 h9, q⟩
theorem g_tape {K : PySem.W.Frag} {a : Addr} {ns : List Int} {H : Hp} {Q : VK} {E : XK} (h : SqL K H a (ns.map V.int)) (l : ns.length ≤ 63) (q : ∀ (t b s : Addr) (H' : Hp), Same H H' → Fr H t → Fr H b → Fr H s → Tape H' t b s → Q (.ref t) H') : sp_Ltape K ([.ref a] ++ []) H Q E :=
  ⟨_, rfl, a, ns, rfl, h, l, q⟩
def t_Ldraw (K : PySem.W.Frag) : TS :=
  (tSeq (tAsg (tOp rAdd (tOp (rIxL K) (tVar 0) (tC (.int 2))) (tC (.int 1))) (gSub (tVar 0) (tC (.int 2)) rSetL))
  (tSeq (tWhile (tAnd (tTest (tOp rGt (tCB (rLen K) (tCons (tOp (rIxL K) (tVar 0) (tC (.int 0))) tNil)) (tC (.int 0)))) (tTest (tOp rEq (tOp (rIxL K) (tOp (rIxL K) (tVar 0) (tC (.int 0))) (tC (.int 0))) (tC (.int 0)))))
  (tDrop (tBM K "list" rPopAt (tOp (rIxL K) (tVar 0) (tC (.int 0))) (tCons (tC (.int 0)) tNil))))
  (tSeq (tIfS (tTest (tOp rGt (tCB (rLen K) (tCons (tOp (rIxL K) (tVar 0) (tC (.int 0))) tNil)) (tC (.int 0))))
  (tSeq (tAsg (tOp rMod (tOp (rIxL K) (tOp (rIxL K) (tVar 0) (tC (.int 0))) (tC (.int 0))) (tVar 1)) (gName 2))
  (tSeq (tAsg (tOp rDivW (tOp (rIxL K) (tOp (rIxL K) (tVar 0) (tC (.int 0))) (tC (.int 0))) (tVar 1)) (gSub (tOp (rIxL K) (tVar 0) (tC (.int 0))) (tC (.int 0)) rSetL))
  (tRet (tVar 2))))
  tNext)
  (tSeq (tAsg (tC (.int 5)) (gName 3))
  (tSeq (tIfS (tTest (tOp rGt (tCB (rLen K) (tCons (tOp (rIxL K) (tVar 0) (tC (.int 1))) tNil)) (tC (.int 0))))
  (tAsg (tOp (rIxL K) (tOp (rIxL K) (tVar 0) (tC (.int 1))) (tOp rMod (tOp (rIxL K) (tVar 0) (tC (.int 2))) (tCB (rLen K) (tCons (tOp (rIxL K) (tVar 0) (tC (.int 1))) tNil)))) (gName 3))
  tNext)
  (tSeq (tAsg (tOp rMod (tOp rMul (tOp rAdd (tOp rAdd (tOp rMod (tVar 3) (tC (.int 999983))) (tOp rMul (tC (.int 7919)) (tOp (rIxL K) (tVar 0) (tC (.int 2))))) (tC (.int 1))) (tC (.int 48271))) (tC (.int 2147483647))) (gName 4))
  (tSeq (tAsg (tOp rMod (tOp rAdd (tOp rAdd (tOp rMul (tVar 4) (tVar 4)) (tOp rMul (tC (.int 69621)) (tOp (rIxL K) (tVar 0) (tC (.int 2))))) (tC (.int 11))) (tC (.int 2147483629))) (gName 4))
  (tRet (tOp rMod (tOp rDivW (tOp rMod (tOp rMul (tOp rDivW (tVar 4) (tC (.int 64))) (tC (.int 40503))) (tC (.int 2147483587))) (tC (.int 32))) (tVar 1))))))))))
theorem pure_Ldraw {K : PySem.W.Frag} {x y : V} {H : Hp} {Q : VK} {E : XK} (h : sp_Ldraw K [x, y] H Q E) : t_Ldraw K { nx := fun _ H' => Q .non H', rt := Q } [some x, some y, none, none, none] H := by
  obtain ⟨x, y, e, t, b, s, m, rfl, rfl, ⟨ntb, nts, nbs, A, S, n, ht, hb, hs⟩, hm0, hm9, q⟩ := h
  cases e
  unfold t_Ldraw
  walk_at "st"
  refine ⟨fun k σ' H' => σ' = [some (.ref t), some (.int m), none, none, none] ∧ Kp [t, b] H H' ∧ ∃ A' : List Int, A'.length = k ∧ H' t = some (.lst [.ref b, .ref s, .int (n + 1)]) ∧ H' b = some (.lst (A'.map V.int)) ∧ H' s = some (.lst (S.map V.int)),
    ⟨_, rfl, kp_upd (by simp), A, rfl, upd_same, by rw [upd_ne ntb.symm]; exact hb, by rw [upd_ne nts.symm]; exact hs⟩, ?_⟩
  rintro k σ' H' ⟨rfl, kp, A', rfl, ht', hb', hs'⟩
  clear ht hb hs
  walk_at "st"
  cases A' with
  | nil =>
    refine ite_df (by simp) ?_
    refine iteF ?_
    have T : Tape H' t b s := ⟨ntb, nts, nbs, [], S, _, ht', hb', hs'⟩
    walk_at "st"
    refine ite_df (by simp) ?_
    walk_at "st"
    cases S with
    | nil =>
      refine ite_df (by simp) ?_
      walk_at "st"
      exact q _ _ (Int.emod_nonneg _ (by omega)) (Int.emod_lt_of_pos _ hm0) T kp
    | cons c S =>
      refine ite_dt (by rw [List.length_map, List.length_cons]; omega) ?_
      obtain ⟨v, hv⟩ := atI_ex (xs := c :: S) (i := (n + 1) % ((((c :: S).map V.int).length : Nat) : Int)) (Int.emod_nonneg _ (by rw [List.length_map, List.length_cons]; omega))
        (Int.lt_of_lt_of_le (Int.emod_lt_of_pos _ (by rw [List.length_map, List.length_cons]; omega)) (by rw [List.length_map]; omega))
      walk_at "st"
      exact q _ _ (Int.emod_nonneg _ (by omega)) (Int.emod_lt_of_pos _ hm0) T kp
  | cons z r =>
    refine ite_dt (by rw [List.length_map, List.length_cons]; omega) ?_
    walk_at "st"
    rw [int_eq]
    refine ite_d (fun hz => ?_) fun hz => ?_
    · -- a great cell that is none any more
      walk_at "st"
      refine ⟨fun σ2 H2 => σ2 = [some (.ref t), some (.int m), none, none, none] ∧ Kp [t, b] H H2 ∧ H2 t = some (.lst [.ref b, .ref s, .int (n + 1)]) ∧ H2 b = some (.lst (r.map V.int)) ∧ H2 s = some (.lst (S.map V.int)),
        fun σ2 H2 ⟨e, k2, a1, a2, a3⟩ => ⟨r.length, by simp, e, k2, r, rfl, a1, a2, a3⟩, ?_⟩
      walk_at "st"
      refine g_popAt (n := 0) hb' (by decide) (by decide) (seq_zero (by simp)) rfl ?_
      exact ⟨rfl, kp.put (by simp), at_ne ntb ht', upd_same, at_ne nbs.symm hs'⟩
    · walk_at "st"
      refine ite_dt (by rw [List.length_map, List.length_cons]; omega) ?_
      walk_at "st"
      exact q _ _ (Int.emod_nonneg _ (by omega)) (Int.emod_lt_of_pos _ hm0) ⟨ntb, nts, nbs, (z / m) :: r, S, _, at_ne ntb ht', upd_same, at_ne nbs.symm hs'⟩ (kp.put (by simp))
def t_Ltape (K : PySem.W.Frag) : TS :=
  (tRet (tLst (tCons (tLc (iList K (tSl (rSlL K) (tVar 0) tNoPart (tPart (tC (.int 63))))) (gName 1) (tTest (tOp rGe (tCB rAbs (tCons (tVar 1) tNil)) (tOp rPow (tC (.int 10)) (tC (.int 18))))) (tCB rAbs (tCons (tVar 1) tNil)) [1]) (tCons (tCB (rListOf K) (tCons (tSl (rSlL K) (tVar 0) tNoPart (tPart (tC (.int 63)))) tNil)) (tCons (tC (.int 0)) tNil)))))
theorem pure_Ltape {K : PySem.W.Frag} {x : V} {H : Hp} {Q : VK} {E : XK} (h : sp_Ltape K [x] H Q E) : t_Ltape K { nx := fun _ H' => Q .non H', rt := Q } [some x, none] H := by
  obtain ⟨x, e, a, ns, rfl, hS, hl, q⟩ := h
  cases e
  unfold t_Ltape
  walk_at "st"
  rename_i p hp
  intro D hD
  have e63 : cutV (ns.map V.int) none (some 63) = ns.map V.int := by
    rw [cut_to (by decide), List.take_of_length_le (by rw [List.length_map]; exact hl)]
  rw [e63] at hD ⊢
  refine lc_list (K := K) (a := p) (xs := ns.map V.int) (fun i H' => Same H H' ∧ H' p = some (.lst (ns.map V.int)) ∧ ∃ A : List Int, A.length ≤ i ∧ H' D = some (.lst (A.map V.int)))
    ⟨(same_new hp).trans (same_new hD), at_new hD upd_same, [], Nat.le_refl _, upd_same⟩ (fun i H' _ h => SqL.of h.2.1) ?_ ?_
  · rintro i y H' hi ⟨s1, s2, A, hA, s3⟩
    obtain ⟨z, rfl, hz⟩ := map_get hi
    have hi63 : i < 63 := Nat.lt_of_lt_of_le (List.getElem?_eq_some_iff.mp hz).1 hl
    walk_at "st"
    refine ite_d (fun _ => ?_) fun _ => ⟨s1, s2, A, Nat.le_succ_of_le hA, s3⟩
    walk_at "st"
    have nDp : p ≠ D := ne_of_none (o := .lst (ns.map V.int)) upd_same hD
    have hD0 : Fr H D := (same_new hp).free hD
    refine ⟨A.map V.int, s3, by rw [List.length_map, sizeLine_eq]; omega, fun b o e => at_ne (ne_of_none e hD0) (s1 b o e), at_ne nDp s2, A ++ [if z < 0 then -z else z], by simp; omega, ?_⟩
    rw [upd_same, List.map_append]
    rfl
  · rintro H' ⟨s1, s2, A, hA, s3⟩
    have hS' := s1.seq hS
    have hD0 : Fr H D := (same_new hp).free hD
    walk_at "st"
    rename_i p1 hp1 p2 hp2 p3 hp3
    rw [e63] at hp2 hp3 ⊢
    exact q p3 D p2 _ (by walk_at "sm") (by walk_at "fr") hD0 (by walk_at "fr") ⟨by walk_at "ne", by walk_at "ne", by walk_at "ne", A, ns, 0, upd_same, by walk_at "at", by walk_at "at"⟩
end Y
/-! Y8: marked: which nights of bundles are free. -/
namespace Y
open PySem PySem.Spec PyProof.Rows L2
/-! ### the plain law -/
def ltP (a b : Pr) : Bool := decide (a.1 < b.1) || (decide (a.1 = b.1) && decide (a.2 < b.2))
theorem ltP_iff {a b : Pr} : ltP a b = true ↔ a.1 < b.1 ∨ (a.1 = b.1 ∧ a.2 < b.2) := by
  unfold ltP
  simp
def key (ps : List Int) (p : Nat) : Pr := (ps.getD p 0, (ps.length : Int) - p)
theorem key_inj {ps : List Int} {p q : Nat} (h : key ps p = key ps q) : p = q := by
  have := congrArg Prod.snd h
  simp only [key] at this
  omega
def bund (ps : List Int) (m b : Nat) : List Pr := (List.range m).map fun i => key ps (b * m + i)
def rank (ps : List Int) (m p : Nat) : Nat := (bund ps m (p / m)).countP fun k => ltP k (key ps p)
def isMk (ps : List Int) (m f p : Nat) : Bool := decide (p / m < ps.length / m) && decide (rank ps m p < f)
def mk (ps : List Int) (m f : Nat) : List Bool := (List.range ps.length).map fun p => isMk ps m f p
def mkO (ps : List Int) : Option (Int × Int) → List Bool
  | none => List.replicate ps.length false
  | some d => mk ps d.1.toNat d.2.toNat
theorem mkO_len (ps : List Int) (d : Option (Int × Int)) : (mkO ps d).length = ps.length := by
  cases d with
  | none => simp [mkO]
  | some d => simp [mkO, mk]
/-- in a list that rises strictly the first f are those with fewer than f below -/
theorem take_rank : ∀ {us : List Pr}, us.Pairwise (fun a b => ltP a b = true) → ∀ {x : Pr}, x ∈ us → ∀ f : Nat, x ∈ us.take f ↔ us.countP (fun k => ltP k x) < f
  | [], _, x, hx, f => by cases hx
  | u :: r, h, x, hx, f => by
    obtain ⟨h1, h2⟩ := List.pairwise_cons.mp h
    have irr : ∀ a : Pr, ltP a a = false := fun a => by
      rw [← Bool.not_eq_true, ltP_iff]
      omega
    cases f with
    | zero => simp
    | succ f =>
      rw [List.take_succ_cons, List.countP_cons]
      rcases List.mem_cons.mp hx with e | hx
      · subst e
        have e0 : r.countP (fun k => ltP k x) = 0 := List.countP_eq_zero.mpr fun k hk hh => by
          have h3 := ltP_iff.mp (h1 k hk)
          have h4 := ltP_iff.mp hh
          omega
        rw [e0, irr]
        simp
      · have hux := h1 x hx
        have nx : x ≠ u := fun e => by rw [e, irr] at hux; cases hux
        rw [hux, if_pos rfl]
        have ih := take_rank h2 hx f
        constructor
        · intro hm
          rcases List.mem_cons.mp hm with e | hm
          · exact absurd e nx
          · have := ih.mp hm
            omega
        · intro hm
          exact List.mem_cons_of_mem _ (ih.mpr (by omega))
theorem mem_bund {ps : List Int} {m b p : Nat} (hm : 0 < m) : key ps p ∈ bund ps m b ↔ p / m = b := by
  unfold bund
  rw [List.mem_map]
  constructor
  · rintro ⟨i, hi, e⟩
    have := key_inj e
    have hi' := List.mem_range.mp hi
    rw [← this, Nat.mul_comm, Nat.mul_add_div hm, Nat.div_eq_of_lt hi']
    omega
  · rintro rfl
    exact ⟨p % m, List.mem_range.mpr (Nat.mod_lt _ hm), by rw [Nat.mul_comm, Nat.div_add_mod]⟩
theorem nodup_bund (ps : List Int) (m b : Nat) : (bund ps m b).Nodup := by
  unfold bund
  refine List.Pairwise.map _ (fun i j (h : i ≠ j) e => h ?_) List.nodup_range
  have := key_inj e
  omega
/-- the sorted bundle rises strictly -/
theorem sorted_strict {ps : List Int} {m b : Nat} {us : List Pr} (hp : us.Perm (bund ps m b)) (ho : us.Pairwise fun p q => p.1 < q.1 ∨ (p.1 = q.1 ∧ p.2 ≤ q.2)) : us.Pairwise fun a b => ltP a b = true := by
  have nd : us.Nodup := hp.nodup_iff.mpr (nodup_bund ps m b)
  refine (ho.and nd).imp fun {x y} h => ltP_iff.mpr ?_
  rcases h.1 with h1 | ⟨h1, h2⟩
  · exact .inl h1
  · refine .inr ⟨h1, ?_⟩
    by_cases e : x.2 = y.2
    · exact absurd (Prod.ext h1 e) h.2
    · omega
theorem mem_take {ps : List Int} {m b f p : Nat} (hm : 0 < m) {us : List Pr} (hp : us.Perm (bund ps m b)) (ho : us.Pairwise fun p q => p.1 < q.1 ∨ (p.1 = q.1 ∧ p.2 ≤ q.2)) :
    key ps p ∈ us.take f ↔ p / m = b ∧ rank ps m p < f := by
  have hs := sorted_strict hp ho
  constructor
  · intro h
    have hu := List.mem_of_mem_take h
    have hb := (mem_bund hm).mp (hp.mem_iff.mp hu)
    refine ⟨hb, ?_⟩
    unfold rank
    rw [hb, ← hp.countP_eq]
    exact (take_rank hs hu f).mp h
  · rintro ⟨rfl, h⟩
    have hu := hp.mem_iff.mpr ((mem_bund hm).mpr rfl)
    refine (take_rank hs hu f).mpr ?_
    rw [hp.countP_eq]
    exact h
theorem set_map {β : Type} (n p : Nat) (f : Nat → β) (v : β) : ((List.range n).map f).set p v = (List.range n).map fun q => if q = p then v else f q := by
  apply List.ext_getElem (by simp)
  intro i h1 h2
  rw [List.getElem_set]
  simp
  by_cases h : p = i
  · rw [if_pos h, if_pos h.symm]
  · rw [if_neg h, if_neg (Ne.symm h)]
theorem ix_nat {n p : Nat} {i : Int} (e : i = p) (h : p < n) : ixN n i = some p := by
  subst e
  unfold ixN
  simp
  exact h
/-! ### the walk -/
def DealAt (H : Hp) (y : V) : Option (Int × Int) → Prop
  | none => y = .non
  | some d => PrAt H y d ∧ 0 < d.1 ∧ d.1 ≤ 1000 ∧ 0 ≤ d.2
def sp_marked (K : PySem.W.Frag) : Sp := Sp2 fun x y H Q E => ∃ (a : Addr) (ps : List Int) (d : Option (Int × Int)), x = .ref a ∧ SqL K H a (ps.map V.int) ∧ ps.length ≤ 1000 ∧ DealAt H y d ∧
  ∀ (l : Addr) (H' : Hp), Same H H' → Fr H l → H' l = some (.lst ((mkO ps d).map V.bl)) → Q (.ref l) H'
theorem g_marked {K : PySem.W.Frag} {a : Addr} {y : V} {ps : List Int} {H : Hp} {Q : VK} {E : XK} (d : Option (Int × Int)) (h : SqL K H a (ps.map V.int)) (hl : ps.length ≤ 1000) (hd : DealAt H y d)
    (q : ∀ (l : Addr) (H' : Hp), Same H H' → Fr H l → H' l = some (.lst ((mkO ps d).map V.bl)) → Q (.ref l) H') : sp_marked K ([.ref a, y] ++ []) H Q E := ⟨_, y, rfl, a, ps, d, rfl, h, hl, hd, q⟩
theorem range_no (n : Nat) : (List.range n).filterMap (fun _ => some (V.bl false)) = (List.replicate n false).map V.bl := by
  induction n with
  | zero => rfl
  | succ n ih => rw [List.range_succ, List.filterMap_append, ih, List.replicate_succ']; simp
/-! steps: a heap's facts (at), a list's or tuple's (sq), side questions (sd), one step (s1), many (ss) -/
local macro_rules | `(tactic| walk_at "tp") => `(tactic| first
  | with_reducible assumption
  | ((with_reducible refine' Y.tape_new ?n0 ?n1); (case n0 => with_reducible assumption); (case n1 => walk_at "tp"))
  | ((with_reducible refine' Y.tape_same ?n0 ?n1); (case n0 => with_reducible assumption); (case n1 => walk_at "tp"))
  | ((with_reducible refine' Y.tape_own ?n0 ?n1 ?n2); (case n0 => with_reducible assumption); (case n1 => walk_at "tp"); (case n2 => walk_at "tp"))
  | fail)
local macro_rules | `(tactic| walk_at "ni") => `(tactic| first
  | with_reducible assumption
  | ((with_reducible refine' Y.ni_tape ?n0 ?n1); (case n0 => with_reducible assumption); (case n1 => walk_at "tp"))
  | fail)
local macro_rules | `(tactic| walk_at "at0") => `(tactic| first
  | with_reducible assumption
  | with_reducible exact upd_same
  | ((with_reducible refine' Y.at_new ?n0 ?n1); (case n0 => with_reducible assumption); (case n1 => walk_at "at0"))
  | ((with_reducible refine' Y.get_same ?n0 ?n1); (case n0 => with_reducible assumption); (case n1 => walk_at "at0"))
  | ((with_reducible refine' Y.get_kp ?n0 ?n1 ?n2); (case n0 => with_reducible assumption); (case n1 => walk_at "at0"); (case n2 => walk_at "ni"))
  | fail)
local macro_rules | `(tactic| walk_at "ne") => `(tactic| first
  | assumption
  | exact Ne.symm (by assumption)
  | ((with_reducible refine' Y.ne_new ?n0 ?n1); (case n0 => with_reducible assumption); (case n1 => walk_at "at"))
  | ((with_reducible refine' Y.ne_new' ?n0 ?n1); (case n0 => with_reducible assumption); (case n1 => walk_at "at"))
  | fail)
local macro_rules | `(tactic| walk_at "sm") => `(tactic| first
  | with_reducible assumption
  | with_reducible exact Same.refl _
  | ((with_reducible refine' Y.sm_new ?n0 ?n1); (case n0 => with_reducible assumption); (case n1 => walk_at "sm"))
  | ((with_reducible refine' Y.sm_own ?n0 ?n1); (case n0 => with_reducible assumption); (case n1 => walk_at "sm"))
  | ((with_reducible refine' Y.sm_tr ?n0 ?n1); (case n0 => with_reducible assumption); (case n1 => walk_at "sm"))
  | fail)
local macro_rules | `(tactic| walk_at "kp") => `(tactic| first
  | with_reducible assumption
  | with_reducible exact Y.Kp.refl _ _
  | ((with_reducible refine' Y.kp_own ?n0 ?n1); (case n0 => with_reducible assumption); (case n1 => walk_at "kp"))
  | ((with_reducible refine' Y.kp_new ?n0 ?n1); (case n0 => with_reducible assumption); (case n1 => walk_at "kp"))
  | ((with_reducible refine' Y.kp_tr ?n0 ?n1); (case n0 => with_reducible assumption); (case n1 => walk_at "kp"))
  | ((with_reducible refine' Y.kp_sm ?n0 ?n1); (case n0 => with_reducible assumption); (case n1 => walk_at "kp"))
  | fail)
local macro_rules | `(tactic| walk_at "fr") => `(tactic| first
  | with_reducible assumption
  | ((with_reducible refine' Y.fr_new ?n0); (case n0 => with_reducible assumption))
  | ((with_reducible refine' Y.fr_of ?n0 ?n1); (case n0 => with_reducible assumption); (case n1 => walk_at "sm"))
  | fail)
local macro_rules | `(tactic| walk_at "at") => `(tactic| first
  | with_reducible assumption
  | with_reducible exact upd_same
  | ((with_reducible refine' Y.at_new ?n0 ?n1); (case n0 => with_reducible assumption); (case n1 => walk_at "at"))
  | ((with_reducible refine' Y.at_ne ?n0 ?n1); (case n0 => walk_at "ne"); (case n1 => walk_at "at"))
  | ((with_reducible refine' Y.get_same ?n0 ?n1); (case n0 => with_reducible assumption); (case n1 => walk_at "at"))
  | ((with_reducible refine' Y.get_kp ?n0 ?n1 ?n2); (case n0 => with_reducible assumption); (case n1 => walk_at "at"); (case n2 => walk_at "ni"))
  | ((with_reducible refine' Y.at_tk ?n0 ?n1 ?n2); (case n0 => with_reducible assumption); (case n1 => walk_at "tp"); (case n2 => walk_at "at"))
  | fail)
local macro_rules | `(tactic| walk_at "pr") => `(tactic| first
  | with_reducible assumption
  | ((with_reducible refine' Y.pr_of ?n0); (case n0 => walk_at "at"))
  | ((with_reducible refine' Y.pr_new ?n0 ?n1); (case n0 => with_reducible assumption); (case n1 => walk_at "pr"))
  | ((with_reducible refine' Y.pr_put ?n0 ?n1); (case n0 => walk_at "at"); (case n1 => walk_at "pr"))
  | ((with_reducible refine' Y.pr_same ?n0 ?n1); (case n0 => with_reducible assumption); (case n1 => walk_at "pr"))
  | ((with_reducible refine' Y.pr_kp ?n0 ?n2 ?n1); (case n0 => with_reducible assumption); (case n2 => walk_at "tp"); (case n1 => walk_at "pr"))
  | fail)
local macro_rules | `(tactic| walk_at "prs") => `(tactic| first
  | with_reducible assumption
  | with_reducible exact Y.prs_nil
  | ((with_reducible refine' Y.prs_snoc ?n0 ?n1); (case n0 => walk_at "prs"); (case n1 => walk_at "pr"))
  | ((with_reducible refine' Y.prs_cons ?n0 ?n1); (case n0 => walk_at "pr"); (case n1 => walk_at "prs"))
  | ((with_reducible refine' Y.prs_rev ?n0); (case n0 => walk_at "prs"))
  | ((with_reducible refine' Y.prs_app ?n0 ?n1); (case n0 => walk_at "prs"); (case n1 => walk_at "prs"))
  | ((with_reducible refine' Y.prs_new ?n0 ?n1); (case n0 => with_reducible assumption); (case n1 => walk_at "prs"))
  | ((with_reducible refine' Y.prs_put ?n0 ?n1); (case n0 => walk_at "at"); (case n1 => walk_at "prs"))
  | ((with_reducible refine' Y.prs_same ?n0 ?n1); (case n0 => with_reducible assumption); (case n1 => walk_at "prs"))
  | ((with_reducible refine' Y.prs_kp ?n0 ?n2 ?n1); (case n0 => with_reducible assumption); (case n2 => walk_at "tp"); (case n1 => walk_at "prs"))
  | fail)
local macro_rules | `(tactic| walk_at "up") => `(tactic| first
  | with_reducible assumption
  | with_reducible exact Y.up_nil
  | ((with_reducible refine' Y.Can.up ?n0); (case n0 => with_reducible assumption))
  | ((with_reducible refine' Y.up_rev ?n0); (case n0 => walk_at "up"))
  | ((with_reducible refine' Y.up_app ?n0 ?n1); (case n0 => walk_at "up"); (case n1 => walk_at "up"))
  | fail)
local macro_rules | `(tactic| walk_at "sq") => `(tactic| first
  | assumption
  | (refine' SqL.of ?n0; (case n0 => walk_at "at"))
  | (refine' SqT.of ?n0; (case n0 => walk_at "at"))
  | ((with_reducible refine' Y.sql_new ?n0 ?n1); (case n0 => with_reducible assumption); (case n1 => walk_at "sq"))
  | ((with_reducible refine' Y.sql_same ?n0 ?n1); (case n0 => with_reducible assumption); (case n1 => walk_at "sq"))
  | ((with_reducible refine' Y.sqt_new ?n0 ?n1); (case n0 => with_reducible assumption); (case n1 => walk_at "sq"))
  | ((with_reducible refine' Y.sqt_same ?n0 ?n1); (case n0 => with_reducible assumption); (case n1 => walk_at "sq"))
  | ((with_reducible refine' Y.sq_or ?n0); (case n0 => walk_at "at"))
  | ((with_reducible refine' Y.sq_orT ?n0); (case n0 => walk_at "at"))
  | ((with_reducible refine' Or.inl ?n0); (case n0 => walk_at "sq"))
  | ((with_reducible refine' Or.inr ?n0); (case n0 => walk_at "sq"))
  | fail)
local macro_rules | `(tactic| walk_at "dp") => `(tactic| first
  | assumption
  | exact Dp.int _
  | exact Dp.str _
  | exact Dp.bl _
  | exact Dp.non
  | (refine' Dp.tup ?s0 ?a0; (case s0 => walk_at "sq"); (case a0 => walk_at "dpa"))
  | (refine' Dp.lst ?s0 ?a0; (case s0 => walk_at "sq"); (case a0 => walk_at "dpa"))
  | fail)
local macro_rules | `(tactic| walk_at "dpa") => `(tactic| first
  | exact DpAll.nil
  | exact Y.dp_ints _
  | (refine' DpAll.cons ?a0 ?b0; (case a0 => walk_at "dp"); (case b0 => walk_at "dpa"))
  | fail)
local macro_rules | `(tactic| walk_at "sh") => `(tactic| first
  | assumption
  | exact ⟨by simp [PyData.canLay0, PyData.canLayAll0], by simp [PyData.depth, PyData.depthAll]⟩
  | fail)
local macro_rules | `(tactic| walk_at "sd") => `(tactic| ((try dsimp only); first
  | omega
  | assumption
  | exact rfl
  | decide
  | exact Or.inl ⟨by omega, by omega⟩
  | exact Or.inr ⟨by omega, by omega⟩
  | exact ⟨by first | assumption | omega | decide, by first | assumption | omega | decide⟩
  | exact ⟨by decide, by decide, by decide⟩
  | (simp only [List.length_map, List.length_append, List.length_cons, List.length_nil, List.length_singleton, List.length_reverse, sizeLine_eq]; omega)
  | fail))
local macro_rules | `(tactic| walk_at "rf") => `(tactic| exact rfl)
local macro_rules | `(tactic| walk_at "ai") => `(tactic| first
  | assumption
  | ((with_reducible refine' Y.at_k0 ?r); (case r => exact rfl))
  | ((with_reducible refine' Y.at_k1 ?r); (case r => exact rfl))
  | ((with_reducible refine' Y.at_k2 ?r); (case r => exact rfl))
  | ((with_reducible refine' Y.at_k3 ?r); (case r => exact rfl))
  | ((with_reducible refine' Y.at_k4 ?r); (case r => exact rfl))
  | ((with_reducible refine' Y.at_k5 ?r); (case r => exact rfl))
  | ((with_reducible refine' Y.at_k6 ?r); (case r => exact rfl))
  | ((with_reducible refine' Y.at_k7 ?r); (case r => exact rfl))
  | ((with_reducible refine' Y.atI_map ?r); (case r => assumption))
  | ((with_reducible refine' Y.ix_k0 ?r); (case r => walk_at "sd"))
  | ((with_reducible refine' Y.ix_k1 ?r); (case r => walk_at "sd"))
  | ((with_reducible refine' Y.ix_k2 ?r); (case r => walk_at "sd"))
  | ((with_reducible refine' Y.ix_k3 ?r); (case r => walk_at "sd"))
  | (with_reducible exact Y.at_last _ _)
  | ((with_reducible refine' Y.ix_last ?r); (case r => walk_at "sd"))
  | ((with_reducible refine' Y.ix_zero ?r); (case r => simp))
  | fail)
local macro_rules | `(tactic| walk_at "isi") => `(tactic| first
  | (with_reducible refine Y.g_isi_int_int ?_)
  | (with_reducible refine Y.g_isi_int_bool ?_)
  | (with_reducible refine Y.g_isi_int_str ?_)
  | (with_reducible refine Y.g_isi_int_list ?_)
  | (with_reducible refine Y.g_isi_int_tuple ?_)
  | (with_reducible refine Y.g_isi_bl_int ?_)
  | (with_reducible refine Y.g_isi_bl_bool ?_)
  | (with_reducible refine Y.g_isi_bl_str ?_)
  | (with_reducible refine Y.g_isi_bl_list ?_)
  | (with_reducible refine Y.g_isi_bl_tuple ?_)
  | (with_reducible refine Y.g_isi_str_int ?_)
  | (with_reducible refine Y.g_isi_str_bool ?_)
  | (with_reducible refine Y.g_isi_str_str ?_)
  | (with_reducible refine Y.g_isi_str_list ?_)
  | (with_reducible refine Y.g_isi_str_tuple ?_)
  | (with_reducible refine Y.g_isi_non_int ?_)
  | (with_reducible refine Y.g_isi_non_bool ?_)
  | (with_reducible refine Y.g_isi_non_str ?_)
  | (with_reducible refine Y.g_isi_non_list ?_)
  | (with_reducible refine Y.g_isi_non_tuple ?_)
  | ((with_reducible refine' Y.g_isi_lst_int ?h ?_); (case h => walk_at "at"))
  | ((with_reducible refine' Y.g_isi_lst_bool ?h ?_); (case h => walk_at "at"))
  | ((with_reducible refine' Y.g_isi_lst_str ?h ?_); (case h => walk_at "at"))
  | ((with_reducible refine' Y.g_isi_lst_list ?h ?_); (case h => walk_at "at"))
  | ((with_reducible refine' Y.g_isi_lst_tuple ?h ?_); (case h => walk_at "at"))
  | ((with_reducible refine' Y.g_isi_tup_int ?h ?_); (case h => walk_at "at"))
  | ((with_reducible refine' Y.g_isi_tup_bool ?h ?_); (case h => walk_at "at"))
  | ((with_reducible refine' Y.g_isi_tup_str ?h ?_); (case h => walk_at "at"))
  | ((with_reducible refine' Y.g_isi_tup_list ?h ?_); (case h => walk_at "at"))
  | ((with_reducible refine' Y.g_isi_tup_tuple ?h ?_); (case h => walk_at "at"))
  | fail)
local macro_rules | `(tactic| walk_at "s1") => `(tactic| first
  | ((with_reducible refine' Y.g_var ?h ?_); (case h => exact rfl))
  | (with_reducible refine Y.g_c ?_)
  | (with_reducible refine Y.g_op ?_)
  | (with_reducible refine Y.g_cons ?_)
  | (with_reducible refine Y.g_nil ?_)
  | (with_reducible refine Y.g_test ?_)
  | (with_reducible refine Y.g_cb ?_)
  | (with_reducible refine Y.g_seqA ?_)
  | (with_reducible refine Y.g_seqR ?_)
  | (with_reducible refine Y.g_seqD ?_)
  | (with_reducible refine Y.g_seqF ?_)
  | (with_reducible refine Y.g_seqW ?_)
  | (with_reducible refine Y.g_seqP ?_)
  | (with_reducible refine Y.g_asg ?_)
  | (with_reducible refine Y.g_name ?_)
  | (with_reducible refine Y.g_ifS ?_)
  | (with_reducible refine Y.g_pow6 ?_)
  | (with_reducible refine Y.g_pow9 ?_)
  | (with_reducible refine Y.g_pow12 ?_)
  | (with_reducible refine Y.g_pow18 ?_)
  | (with_reducible refine Y.g_pow60 ?_)
  | ((with_reducible refine Y.g_rI ?c ?_); (case c => walk_at "sd"))
  | ((with_reducible refine Y.g_eq ?c ?_); (case c => walk_at "rf"))
  | ((with_reducible refine Y.g_ne ?c ?_); (case c => walk_at "rf"))
  | ((with_reducible refine' Y.g_ixL ?h ?a ?_); (case h => walk_at "sq"); (case a => walk_at "ai"))
  | ((with_reducible refine' Y.g_pick2 ?h ?a ?b fun v hv => ?_); (case h => walk_at "sq"); (case a => assumption); (case b => assumption))
  | ((with_reducible refine' Y.g_pick3 ?h ?a ?b fun v hv => ?_); (case h => walk_at "sq"); (case a => assumption); (case b => assumption))
  | ((with_reducible refine' Y.g_pick4 ?h ?a ?b fun v hv => ?_); (case h => walk_at "sq"); (case a => assumption); (case b => assumption))
  | ((with_reducible refine' Y.g_pick5 ?h ?a ?b fun v hv => ?_); (case h => walk_at "sq"); (case a => assumption); (case b => assumption))
  | ((with_reducible refine' Y.g_pick6 ?h ?a ?b fun v hv => ?_); (case h => walk_at "sq"); (case a => assumption); (case b => assumption))
  | ((with_reducible refine' Y.g_pick7 ?h ?a ?b fun v hv => ?_); (case h => walk_at "sq"); (case a => assumption); (case b => assumption))
  | ((with_reducible refine' Y.g_pick8 ?h ?a ?b fun v hv => ?_); (case h => walk_at "sq"); (case a => assumption); (case b => assumption))
  | ((with_reducible refine' Y.g_pick9 ?h ?a ?b fun v hv => ?_); (case h => walk_at "sq"); (case a => assumption); (case b => assumption))
  | ((with_reducible refine' Y.g_ixT ?h ?a ?_); (case h => walk_at "sq"); (case a => walk_at "ai"))
  | ((with_reducible refine' Y.g_setL ?h ?a ?_); (case h => walk_at "at"); (case a => walk_at "ai"))
  | ((with_reducible refine' Y.g_len ?h ?_); (case h => walk_at "sq"))
  | (with_reducible refine Y.g_call ?_)
  | (with_reducible refine Y.g_tB ?_)
  | (with_reducible refine Y.g_un ?_)
  | (with_reducible refine Y.g_if ?_)
  | (with_reducible refine Y.g_and ?_)
  | (with_reducible refine Y.g_or ?_)
  | (with_reducible refine Y.g_not ?_)
  | (with_reducible refine Y.g_tTup ?_)
  | (with_reducible refine Y.g_tLst ?_)
  | (with_reducible refine Y.g_sl ?_)
  | (with_reducible refine Y.g_pt ?_)
  | (with_reducible refine Y.g_np ?_)
  | (with_reducible refine Y.g_bm ?_)
  | (with_reducible refine Y.g_bm0 ?_)
  | (with_reducible refine Y.g_andV ?_)
  | (with_reducible refine Y.g_orV ?_)
  | (with_reducible refine Y.g_notV ?_)
  | (with_reducible refine Y.g_chain ?_)
  | (with_reducible refine Y.g_ret ?_)
  | (with_reducible refine Y.g_drop ?_)
  | (with_reducible refine Y.g_next ?_)
  | (with_reducible refine Y.g_sub ?_)
  | (with_reducible refine Y.g_gcons ?_)
  | (with_reducible refine Y.g_gnil ?_)
  | (with_reducible refine Y.g_par ?_)
  | (with_reducible refine Y.g_yes ?_)
  | (with_reducible refine Y.g_truth ?_)
  | (with_reducible refine Y.g_lstRg ?_)
  | (with_reducible refine Y.g_rg2 ?_)
  | (with_reducible refine Y.g_rg1 ?_)
  | (with_reducible refine Y.g_exII ?_)
  | (with_reducible refine Y.g_exI ?_)
  | (with_reducible refine Y.g_rng1 ?_)
  | (with_reducible refine Y.g_rng2 ?_)
  | (with_reducible refine Y.g_iList ?_)
  | (with_reducible refine Y.g_iTup ?_)
  | (with_reducible refine Y.g_for ?_)
  | (with_reducible refine Y.g_lc ?_)
  | (with_reducible refine Y.g_rI0 ?_)
  | (with_reducible refine Y.g_isN ?_)
  | (with_reducible refine Y.g_notN ?_)
  | (with_reducible refine Y.g_abs ?_)
  | (with_reducible refine Y.g_neg ?_)
  | (with_reducible refine Y.g_max2 ?_)
  | (with_reducible refine Y.g_min2 ?_)
  | (with_reducible refine Y.g_bl ?_)
  | ((with_reducible refine' Y.g_slL ?h fun p hp => ?_); (case h => walk_at "sq"))
  | ((with_reducible refine' Y.g_extend ?h ?h2 ?z ?_); (case h => walk_at "at"); (case h2 => walk_at "at"); (case z => walk_at "sd"))
  | ((with_reducible refine' Y.g_cat ?h ?h2 ?z fun l hl => ?_); (case h => walk_at "at"); (case h2 => walk_at "at"); (case z => walk_at "sd"))
  | ((with_reducible refine' Y.g_less ?h ?pp ?l ?u ?h2 ?pp2 ?l2 ?u2 fun p H' ys us hs hf ha hp hc hd hn => ?_); (case h => walk_at "sq"); (case pp => walk_at "prs"); (case l => walk_at "sd"); (case u => walk_at "up"); (case h2 => walk_at "sq"); (case pp2 => walk_at "prs"); (case l2 => walk_at "sd"); (case u2 => walk_at "up"))
  | (with_reducible refine Y.g_Lwhole ?_)
  | ((with_reducible refine' Y.g_Lstr ?T ?c0 ?c1 fun p H' ys ts T' k' hf ha hp hk hn => ?_); (case T => walk_at "tp"); (case c0 => walk_at "sd"); (case c1 => walk_at "sd"))
  | ((with_reducible refine' Y.g_Lstr ?T ?c0 fun p H' ys ts T' k' hf ha hp hk hn => ?_); (case T => walk_at "tp"); (case c0 => exact ⟨by omega, by omega, by omega, by omega⟩))
  | ((with_reducible refine' Y.g_Lprices ?T fun p H' ns T' k' hf ha hn => ?_); (case T => walk_at "tp"))
  | (with_reducible refine Y.g_rng3 ?_)
  | (with_reducible refine Y.g_revS ?_)
  | ((with_reducible refine' Y.g_revSb ?h fun l hl => ?_); (case h => walk_at "sq"))
  | (with_reducible refine Y.g_iZip ?_)
  | ((with_reducible refine' Y.g_iZipb ?h ?h2 ?_); (case h => walk_at "sq"); (case h2 => walk_at "sq"))
  | ((with_reducible refine' Y.g_listOf ?h fun p hp => ?_); (case h => walk_at "sq"))
  | ((with_reducible refine' Y.g_append ?h ?z ?_); (case h => walk_at "at"); (case z => walk_at "sd"))
  | ((with_reducible refine Y.g_sz ?z fun p hp => ?_); (case z => walk_at "sd"))
  | ((with_reducible refine' Y.g_gtup ?h ?l ?_); (case h => walk_at "sq"); (case l => walk_at "rf"))
  | ((with_reducible refine' Y.g_tyL ?h ?_); (case h => walk_at "sq"))
  | ((with_reducible refine Y.g_rng1b ?a ?b ?_); (case a => walk_at "sd"); (case b => walk_at "sd"))
  | ((with_reducible refine Y.g_rng2b ?a ?_); (case a => walk_at "sd"))
  | ((with_reducible refine' Y.g_iListb ?h ?_); (case h => walk_at "sq"))
  | ((with_reducible refine' Y.g_iTupb ?h ?_); (case h => walk_at "sq"))
  | ((with_reducible refine' Y.g_draw ?T ?c0 ?c9 fun v H' h0 h1 T' k' => ?_); (case T => walk_at "tp"); (case c0 => walk_at "sd"); (case c9 => walk_at "sd"))
  | ((with_reducible refine' Y.g_tape ?h ?l fun t b s H' hs ht hb hz T => ?_); (case h => assumption); (case l => assumption))
  | ((with_reducible refine' Y.g_Lstr ?T ?c0 ?c9 fun p H' ys ts T' k' hf ha hp hk hn => ?_); (case T => walk_at "tp"); (case c0 => walk_at "sd"); (case c9 => walk_at "sd"))
  | ((with_reducible refine' Y.g_has_day ?h ?p ?l fun H' hs => ?_); (case h => walk_at "sq"); (case p => walk_at "prs"); (case l => walk_at "sd"))
  | ((with_reducible refine' Y.g_Lhas ?h ?p ?l fun H' hs => ?_); (case h => walk_at "sq"); (case p => walk_at "prs"); (case l => walk_at "sd"))
  | ((with_reducible refine' Y.g_Ltwo ?pp ?_); (case pp => walk_at "pr"))
  | ((with_reducible refine' Y.g_Lrising ?h ?p ?c ?l fun H' hs => ?_); (case h => walk_at "at"); (case p => walk_at "prs"); (case c => assumption); (case l => walk_at "sd"))
  | ((with_reducible refine' Y.g_spread ?h ?p ?l ?u fun p H' ys us hs hf ha hp hc hd hn hx hy => ?_); (case h => walk_at "sq"); (case p => walk_at "prs"); (case l => walk_at "sd"); (case u => walk_at "up"))
  | ((with_reducible refine' Y.g_sortedP ?h ?p fun p ys us hp hy hq hw => ?_); (case h => walk_at "sq"); (case p => walk_at "prs"))
  | ((with_reducible refine' Y.g_neD_prs ?h ?h2 ?t ?u ?_); (case h => walk_at "sq"); (case h2 => walk_at "sq"); (case t => walk_at "prs"); (case u => walk_at "prs"))
  | ((with_reducible refine' Y.g_eqD_prs ?h ?h2 ?t ?u ?_); (case h => walk_at "sq"); (case h2 => walk_at "sq"); (case t => walk_at "prs"); (case u => walk_at "prs"))
  | walk_at "isi"
  | ((with_reducible refine' Y.g_nights ?h ?b fun p H' hs hp he => ?_); (case h => walk_at "sq"); (case b => exact ⟨by omega, by omega, by omega, by omega⟩))
  | ((with_reducible refine Y.g_wipe ?h ?_); (case h => exact rfl))
  | (with_reducible refine iteT ?_)
  | (with_reducible refine iteF ?_)
  | (with_reducible refine Y.ite_nt ?_)
  | (with_reducible refine Y.ite_nf ?_)
  | fail)
local macro_rules | `(tactic| walk_at "ss") => `(tactic| repeat walk_at "s1")
local macro_rules | `(tactic| walk_at "st") => `(tactic| repeat (first | walk_at "s1" | (with_reducible refine Y.g_seq ?_)))
def t_marked (K : PySem.W.Frag) : TS :=
  (tSeq (tAsg (tLc (iList K (tVar 0)) (gName 2) tYes (tC (.bl false)) [2]) (gName 3))
  (tSeq (tIfS (tTest (tOp rIsN (tVar 1) (tC .non)))
  (tRet (tVar 3))
  tNext)
  (tSeq (tAsg (tVar 1) (gTup K 2 (gCons (gName 4) (gCons (gName 5) gNil))))
  (tSeq (tFor (iRng3 (tCons (tC (.int 0)) (tCons (tOp rAdd (tOp rSub (tCB (rLen K) (tCons (tVar 0) tNil)) (tVar 4)) (tC (.int 1))) (tCons (tVar 4) tNil)))) (gName 6)
  (tSeq (tAsg (tCB (rSortedPO K) (tCons (tLc (iRng2 (tCons (tVar 6) (tCons (tOp rAdd (tVar 6) (tVar 4)) tNil))) (gName 9) tYes (tTup (tCons (tOp (rIxL K) (tVar 0) (tVar 9)) (tCons (tOp rSub (tCB (rLen K) (tCons (tVar 0) tNil)) (tVar 9)) tNil))) [9]) tNil)) (gName 7))
  (tFor (iList K (tSl (rSlL K) (tVar 7) tNoPart (tPart (tVar 5)))) (gTup K 2 (gCons (gName 2) (gCons (gName 8) gNil)))
  (tAsg (tC (.bl true)) (gSub (tVar 3) (tOp rSub (tCB (rLen K) (tCons (tVar 0) tNil)) (tVar 8)) rSetL)))))
  (tRet (tVar 3))))))
theorem pure_marked {K : PySem.W.Frag} {x y : V} {H : Hp} {Q : VK} {E : XK} (h : sp_marked K [x, y] H Q E) : t_marked K { nx := fun _ H' => Q .non H', rt := Q } [some x, some y, none, none, none, none, none, none, none, none] H := by
  obtain ⟨x, y, e, a, ps, d, rfl, hS, hl, hd, q⟩ := h
  cases e
  unfold t_marked
  walk_at "ss"
  refine lc_w (f := fun _ => some (.bl false)) (walk_list (K := K) (a := a) (xs := ps.map V.int)) (by rw [List.length_map]; omega) (fun H' s => Same.seq s hS) ?_ ?_
  · rintro D i x H2 H3 N hD hi hs ⟨rfl, hx⟩ hN _
    walk_at "ss"
    exact hN _ _ rfl (Same.refl _)
  intro D H1 hD s1 hD1
  rw [range_no, List.length_map] at hD1
  walk_at "ss"
  cases d with
  | none =>
    obtain rfl : y = .non := hd
    refine ite_dt rfl ?_
    walk_at "ss"
    exact q D _ s1 hD hD1
  | some d =>
    obtain ⟨⟨dv, rfl, hdv⟩, hd1, hd2, hd3⟩ := hd
    obtain ⟨m, hm⟩ : ∃ m : Nat, d.1 = m := ⟨d.1.toNat, by omega⟩
    obtain ⟨f, hf⟩ : ∃ f : Nat, d.2 = f := ⟨d.2.toNat, by omega⟩
    rw [hm, hf] at hdv
    refine ite_df (by simp) ?_
    walk_at "ss"
    refine ⟨_, _, _, _, rfl, rg_up (n := (ps.map V.int).length) (c := m) (by omega) (by omega) (by rw [List.length_map]; omega), ?_⟩
    rw [List.length_map]
    have nal : ∀ H2 : Hp, Same H1 H2 → SqL K H2 a (ps.map V.int) := fun H2 s2 => Same.seq (s1.trans s2) hS
    refine for_rangeC (lo := 0) (c := (m : Int)) (n := ps.length / m) (fun b σ H' => ∃ v2 v6 v7 v8, σ = [some (.ref a), some (.ref dv), v2, some (.ref D), some (.int m), some (.int f), v6, v7, v8, none] ∧ Same H H' ∧ H' D = some (.lst (((List.range ps.length).map fun p => decide (p / m < b) && decide (rank ps m p < f)).map V.bl)))
      ⟨_, _, _, _, rfl, s1, ?h0⟩ ?_ ?_
    case h0 =>
      rw [hD1]
      congr 3
      apply List.ext_getElem (by simp)
      intro i h1 h2
      simp
    · clear hD1 s1 nal H1 q
      rintro b σ H1 hb ⟨v2, v6, v7, v8, rfl, s1, hD1⟩
      have hbm : b * m + m ≤ ps.length := by
        have h1 := Nat.div_mul_le_self ps.length m
        have h2 : (b + 1) * m ≤ ps.length / m * m := Nat.mul_le_mul_right m hb
        rw [Nat.add_mul, Nat.one_mul] at h2
        omega
      have hbm' : (b : Int) * (m : Int) = ((b * m : Nat) : Int) := by push_cast; rfl
      rw [hbm']
      walk_at "ss"
      rw [show (0 + ((b * m : Nat) : Int) + (m : Int) - (0 + ((b * m : Nat) : Int))).toNat = m by omega]
      refine lc_r (walk_range (lo := 0 + ((b * m : Nat) : Int)) (n := m)) PrAt (fun _ _ _ _ e h => pr_tk e h) (fun i => some (key ps (b * m + i))) (by omega) (fun _ _ => trivial) ?_ ?_
      · rintro D2 i x H2 H3 N hD2 hi s2 ⟨rfl, rfl⟩ hN _
        have hat : atI (ps.map V.int) (0 + ((b * m : Nat) : Int) + (i : Int)) = some (.int (ps.getD (b * m + i) 0)) := by
          have h1 : b * m + i < ps.length := by omega
          have h2 := atI_nat (xs := ps.map V.int) (j := b * m + i) (v := .int (ps.getD (b * m + i) 0)) (by rw [List.getElem?_map, List.getElem?_eq_getElem h1, List.getD_eq_getElem?_getD, List.getElem?_eq_getElem h1]; rfl)
          rw [show (0 + ((b * m : Nat) : Int) + (i : Int)) = ((b * m + i : Nat) : Int) by omega]
          exact h2
        have hSq : SqL K H3 a (ps.map V.int) := Same.seq (s1.trans s2) hS
        walk_at "ss"
        rename_i p hp
        refine hN _ _ _ rfl (same_new hp) ⟨p, rfl, ?_⟩
        rw [upd_same]
        unfold key
        rw [List.length_map, show (0 + ((b * m : Nat) : Int) + (i : Int)) = ((b * m + i : Nat) : Int) by omega]
      intro D2 H2 ys hD2 s2 h2 hP
      have eb : (List.range m).filterMap (fun i => some (key ps (b * m + i))) = bund ps m b := congrFun (List.filterMap_eq_map (f := fun i => key ps (b * m + i))) (List.range m)
      rw [eb] at hP
      walk_at "ss"
      rename_i p3 zs us hp3 hzs hper hord p4 hp4
      have n1 : p3 ≠ D := by walk_at "ne"
      have n2 : p4 ≠ D := by walk_at "ne"
      have h4 : (upd (upd H2 p3 (.lst zs)) p4 (.lst (cutV zs none (some (f : Int))))) p4 = some (.lst (zs.take f)) := by rw [upd_same, cut_to (by omega), Int.toNat_natCast]
      have hPt : PrsAt (upd (upd H2 p3 (.lst zs)) p4 (.lst (cutV zs none (some (f : Int))))) (zs.take f) (us.take f) := by
        have := Paired.take f hzs
        walk_at "prs"
      refine for_list (K := K) (a := p4) (xs := zs.take f) (fun j σ H' => ∃ v2 v8, σ = [some (.ref a), some (.ref dv), v2, some (.ref D), some (.int m), some (.int f), some (.int (0 + ((b * m : Nat) : Int))), some (.ref p3), v8, none] ∧ Same H H' ∧ H' p4 = some (.lst (zs.take f)) ∧ PrsAt H' (zs.take f) (us.take f) ∧
          H' D = some (.lst (((List.range ps.length).map fun p => (decide (p / m < b) && decide (rank ps m p < f)) || decide (key ps p ∈ (us.take f).take j)).map V.bl)))
        ⟨_, _, rfl, by walk_at "sm", h4, hPt, ?h0⟩ (fun j σ H' _ h => by obtain ⟨_, _, _, _, h, _⟩ := h; exact SqL.of h) ?_ ?_
      case h0 =>
        have hD2 : H2 D = some _ := s2 _ _ hD1
        have := at_new (u := .lst (cutV zs none (some (f : Int)))) hp4 (at_new (u := .lst zs) hp3 hD2)
        rw [this]
        simp
      · clear hPt h4 hp4 hzs hp3 hP h2 s2 H2 hD1 s1 H1 hD2
        rintro j x σ H' hj ⟨v2, v8, rfl, s1, h4, hPt, hD1⟩
        obtain ⟨r, hr, w, rfl, hw⟩ := Paired.getL hPt hj
        have hrm := List.mem_of_getElem? hr
        have hru : r ∈ bund ps m b := hper.mem_iff.mp (List.mem_of_mem_take hrm)
        obtain ⟨i, hi, rfl⟩ := List.mem_map.mp hru
        have hi' := List.mem_range.mp hi
        have hSq : SqL K H' a (ps.map V.int) := Same.seq s1 hS
        have hlt : b * m + i < ps.length := by omega
        walk_at "ss"
        refine g_setL hD1 (ix_nat (p := b * m + i) ?gix1 ?gix2) ?_
        case gix1 =>
          rw [List.length_map]
          unfold key
          show (ps.length : Int) - ((ps.length : Int) - ((b * m + i : Nat) : Int)) = _
          omega
        case gix2 =>
          rw [List.length_map, List.length_map, List.length_range]
          exact hlt
        refine ⟨_, _, rfl, by walk_at "sm", at_ne n2 h4, by walk_at "prs", ?_⟩
        rw [upd_same, show V.bl true = V.bl true from rfl, ← List.map_set, set_map]
        congr 3
        refine List.map_congr_left fun q hq => ?_
        rw [List.take_add_one, hr, Option.toList_some]
        by_cases e : q = b * m + i
        · subst e
          simp
        · have e2 : ¬ key ps q = key ps (b * m + i) := fun h => e (key_inj h)
          simp [e, e2]
      · rintro σ H' ⟨v2, v8, rfl, s1, h4, hPt, hD1⟩
        have hlz := Paired.length hPt
        rw [List.take_of_length_le (Nat.le_of_eq hlz.symm)] at hD1
        refine ⟨_, _, _, _, rfl, s1, ?_⟩
        rw [hD1]
        congr 3
        refine List.map_congr_left fun q hq => ?_
        have hmm : 0 < m := by omega
        have e := mem_take (ps := ps) (m := m) (b := b) (f := f) (p := q) hmm hper hord
        rw [Bool.eq_iff_iff]
        simp only [Bool.or_eq_true, Bool.and_eq_true, decide_eq_true_eq, e]
        constructor
        · rintro (⟨h1, h2⟩ | ⟨h1, h2⟩)
          · exact ⟨by omega, h2⟩
          · exact ⟨by omega, h2⟩
        · rintro ⟨h1, h2⟩
          by_cases h3 : q / m < b
          · exact .inl ⟨h3, h2⟩
          · exact .inr ⟨by omega, h2⟩
    · rintro σ H' ⟨v2, v6, v7, v8, rfl, s1, hD1⟩
      walk_at "ss"
      refine q D _ s1 hD ?_
      rw [hD1]
      unfold mkO
      show _ = some (HO.lst ((mk ps d.1.toNat d.2.toNat).map V.bl))
      rw [hm, hf]
      rfl
end Y
namespace Y
open PySem PySem.Spec PyProof.Rows L2
/-! ### the plain law -/
theorem slice_map {β : Type} (n a m : Nat) (g : Nat → β) (h : a + m ≤ n) : (((List.range n).map g).take (a + m)).drop a = (List.range m).map fun i => g (a + i) := by
  apply List.ext_getElem
  · simp
    omega
  · intro i h1 h2
    simp
theorem cnt_take {us : List Pr} (nd : us.Nodup) {f : Nat} (hf : f ≤ us.length) : us.countP (fun x => decide (x ∈ us.take f)) = f := by
  have e := List.take_append_drop f us
  have nd' := nd
  rw [← e] at nd'
  have dj := (List.nodup_append.mp nd').2.2
  have h1 : (us.take f).countP (fun x => decide (x ∈ us.take f)) = (us.take f).length := List.countP_eq_length.mpr fun x hx => by simpa using hx
  have h2 : (us.drop f).countP (fun x => decide (x ∈ us.take f)) = 0 := List.countP_eq_zero.mpr fun x hx h => by
    have h' : x ∈ us.take f := by simpa using h
    exact dj x h' x hx rfl
  have h3 : us.countP (fun x => decide (x ∈ us.take f)) = (us.take f ++ us.drop f).countP (fun x => decide (x ∈ us.take f)) := by rw [e]
  rw [h3, List.countP_append, h1, h2, List.length_take]
  omega
def leP (a b : Pr) : Bool := decide (a.1 < b.1 ∨ (a.1 = b.1 ∧ a.2 ≤ b.2))
theorem sort_ex (l : List Pr) : ∃ us : List Pr, us.Perm l ∧ us.Pairwise fun p q => p.1 < q.1 ∨ (p.1 = q.1 ∧ p.2 ≤ q.2) :=
  ⟨l.mergeSort leP, List.mergeSort_perm l leP, (List.pairwise_mergeSort (fun a b c h1 h2 => by unfold leP at *; simp at *; omega) (fun a b => by unfold leP; simp; omega) l).imp fun h => by unfold leP at h; simpa using h⟩
theorem cnt_bund {ps : List Int} {m b f : Nat} (hm : 0 < m) (hb : b < ps.length / m) (hf : f ≤ m) : ((List.range m).map fun i => isMk ps m f (b * m + i)).countP id = f := by
  obtain ⟨us, hp, ho⟩ := sort_ex (bund ps m b)
  have hl : us.length = m := by rw [hp.length_eq]; simp [bund]
  have e1 : ((List.range m).map fun i => isMk ps m f (b * m + i)).countP id = (List.range m).countP fun i => decide (key ps (b * m + i) ∈ us.take f) := by
    rw [List.countP_map]
    refine List.countP_congr fun i hi => ?_
    have hi' := List.mem_range.mp hi
    have e2 : (b * m + i) / m = b := by rw [Nat.mul_comm, Nat.mul_add_div hm, Nat.div_eq_of_lt hi', Nat.add_zero]
    simp only [Function.comp, id, decide_eq_true_eq, mem_take hm hp ho, e2, true_and]
    unfold isMk
    rw [e2]
    simp [hb]
  have e3 : (List.range m).countP (fun i => decide (key ps (b * m + i) ∈ us.take f)) = (bund ps m b).countP fun x => decide (x ∈ us.take f) := by
    unfold bund
    rw [List.countP_map]
    rfl
  rw [e1, e3, ← hp.countP_eq, cnt_take (hp.nodup_iff.mpr (nodup_bund ps m b)) (by omega)]
theorem near_rank {ps : List Int} {m b i j : Nat} (hm : 0 < m) (hi : i < m) (hj : j < m) (h : ltP (key ps (b * m + j)) (key ps (b * m + i)) = true) : rank ps m (b * m + j) ≤ rank ps m (b * m + i) := by
  have ei : (b * m + i) / m = b := by rw [Nat.mul_comm, Nat.mul_add_div hm, Nat.div_eq_of_lt hi, Nat.add_zero]
  have ej : (b * m + j) / m = b := by rw [Nat.mul_comm, Nat.mul_add_div hm, Nat.div_eq_of_lt hj, Nat.add_zero]
  unfold rank
  rw [ei, ej]
  refine List.countP_mono_left fun k _ hk => ?_
  have h1 := ltP_iff.mp hk
  have h2 := ltP_iff.mp h
  exact ltP_iff.mpr (by omega)
/-! ### the walk -/
def sp_Lbundle (K : PySem.W.Frag) : Sp := Sp3 fun x y z H Q E => ∃ (a b : Addr) (ps : List Int) (bs : List Bool) (f : Int), x = .ref a ∧ y = .ref b ∧ z = .int f ∧ SqL K H a (ps.map V.int) ∧ SqL K H b (bs.map V.bl) ∧ bs.length = ps.length ∧ ps.length ≤ 1000 ∧ (bs.countP id : Int) = f ∧
  (∀ (i j : Nat) (u v : Int), bs[i]? = some true → bs[j]? = some false → ps[i]? = some u → ps[j]? = some v → ¬ (v < u ∨ (v = u ∧ i < j))) ∧ Q (.bl true) H
theorem g_Lbundle {K : PySem.W.Frag} {a b : Addr} {ps : List Int} {bs : List Bool} {f : Int} {H : Hp} {Q : VK} {E : XK} (h : SqL K H a (ps.map V.int)) (h2 : SqL K H b (bs.map V.bl)) (hl : bs.length = ps.length) (hn : ps.length ≤ 1000) (hc : (bs.countP id : Int) = f)
    (ho : ∀ (i j : Nat) (u v : Int), bs[i]? = some true → bs[j]? = some false → ps[i]? = some u → ps[j]? = some v → ¬ (v < u ∨ (v = u ∧ i < j))) (q : Q (.bl true) H) : sp_Lbundle K ([.ref a, .ref b, .int f] ++ []) H Q E :=
  ⟨_, _, _, rfl, a, b, ps, bs, f, rfl, rfl, rfl, h, h2, hl, hn, hc, ho, q⟩
def sp_Lprices (K : PySem.W.Frag) : Sp := Sp1 fun x H Q E => ∃ (t b s : Addr), x = .ref t ∧ Tape H t b s ∧
  ∀ (p : Addr) (H' : Hp) (ns : List Int), Tape H' t b s → Kp [t, b] H H' → Fr H p → H' p = some (.lst (ns.map V.int)) → ns.length ≤ 30 → Q (.ref p) H'
theorem g_Lprices {K : PySem.W.Frag} {t b s : Addr} {H : Hp} {Q : VK} {E : XK} (T : Tape H t b s)
    (q : ∀ (p : Addr) (H' : Hp) (ns : List Int), Tape H' t b s → Kp [t, b] H H' → Fr H p → H' p = some (.lst (ns.map V.int)) → ns.length ≤ 30 → Q (.ref p) H') : sp_Lprices K ([.ref t] ++ []) H Q E := ⟨_, rfl, t, b, s, rfl, T, q⟩
/-! steps: a heap's facts (at), a list's or tuple's (sq), side questions (sd), one step (s1), many (ss) -/
local macro_rules | `(tactic| walk_at "tp") => `(tactic| first
  | with_reducible assumption
  | ((with_reducible refine' Y.tape_new ?n0 ?n1); (case n0 => with_reducible assumption); (case n1 => walk_at "tp"))
  | ((with_reducible refine' Y.tape_same ?n0 ?n1); (case n0 => with_reducible assumption); (case n1 => walk_at "tp"))
  | ((with_reducible refine' Y.tape_own ?n0 ?n1 ?n2); (case n0 => with_reducible assumption); (case n1 => walk_at "tp"); (case n2 => walk_at "tp"))
  | fail)
local macro_rules | `(tactic| walk_at "ni") => `(tactic| first
  | with_reducible assumption
  | ((with_reducible refine' Y.ni_tape ?n0 ?n1); (case n0 => with_reducible assumption); (case n1 => walk_at "tp"))
  | fail)
local macro_rules | `(tactic| walk_at "at0") => `(tactic| first
  | with_reducible assumption
  | with_reducible exact upd_same
  | ((with_reducible refine' Y.at_new ?n0 ?n1); (case n0 => with_reducible assumption); (case n1 => walk_at "at0"))
  | ((with_reducible refine' Y.get_same ?n0 ?n1); (case n0 => with_reducible assumption); (case n1 => walk_at "at0"))
  | ((with_reducible refine' Y.get_kp ?n0 ?n1 ?n2); (case n0 => with_reducible assumption); (case n1 => walk_at "at0"); (case n2 => walk_at "ni"))
  | fail)
local macro_rules | `(tactic| walk_at "ne") => `(tactic| first
  | assumption
  | exact Ne.symm (by assumption)
  | ((with_reducible refine' Y.ne_new ?n0 ?n1); (case n0 => with_reducible assumption); (case n1 => walk_at "at"))
  | ((with_reducible refine' Y.ne_new' ?n0 ?n1); (case n0 => with_reducible assumption); (case n1 => walk_at "at"))
  | fail)
local macro_rules | `(tactic| walk_at "sm") => `(tactic| first
  | with_reducible assumption
  | with_reducible exact Same.refl _
  | ((with_reducible refine' Y.sm_new ?n0 ?n1); (case n0 => with_reducible assumption); (case n1 => walk_at "sm"))
  | ((with_reducible refine' Y.sm_own ?n0 ?n1); (case n0 => with_reducible assumption); (case n1 => walk_at "sm"))
  | ((with_reducible refine' Y.sm_tr ?n0 ?n1); (case n0 => with_reducible assumption); (case n1 => walk_at "sm"))
  | fail)
local macro_rules | `(tactic| walk_at "kp") => `(tactic| first
  | with_reducible assumption
  | with_reducible exact Y.Kp.refl _ _
  | ((with_reducible refine' Y.kp_own ?n0 ?n1); (case n0 => with_reducible assumption); (case n1 => walk_at "kp"))
  | ((with_reducible refine' Y.kp_new ?n0 ?n1); (case n0 => with_reducible assumption); (case n1 => walk_at "kp"))
  | ((with_reducible refine' Y.kp_tr ?n0 ?n1); (case n0 => with_reducible assumption); (case n1 => walk_at "kp"))
  | ((with_reducible refine' Y.kp_sm ?n0 ?n1); (case n0 => with_reducible assumption); (case n1 => walk_at "kp"))
  | fail)
local macro_rules | `(tactic| walk_at "fr") => `(tactic| first
  | with_reducible assumption
  | ((with_reducible refine' Y.fr_new ?n0); (case n0 => with_reducible assumption))
  | ((with_reducible refine' Y.fr_of ?n0 ?n1); (case n0 => with_reducible assumption); (case n1 => walk_at "sm"))
  | fail)
local macro_rules | `(tactic| walk_at "at") => `(tactic| first
  | with_reducible assumption
  | with_reducible exact upd_same
  | ((with_reducible refine' Y.at_new ?n0 ?n1); (case n0 => with_reducible assumption); (case n1 => walk_at "at"))
  | ((with_reducible refine' Y.at_ne ?n0 ?n1); (case n0 => walk_at "ne"); (case n1 => walk_at "at"))
  | ((with_reducible refine' Y.get_same ?n0 ?n1); (case n0 => with_reducible assumption); (case n1 => walk_at "at"))
  | ((with_reducible refine' Y.get_kp ?n0 ?n1 ?n2); (case n0 => with_reducible assumption); (case n1 => walk_at "at"); (case n2 => walk_at "ni"))
  | ((with_reducible refine' Y.at_tk ?n0 ?n1 ?n2); (case n0 => with_reducible assumption); (case n1 => walk_at "tp"); (case n2 => walk_at "at"))
  | fail)
local macro_rules | `(tactic| walk_at "pr") => `(tactic| first
  | with_reducible assumption
  | ((with_reducible refine' Y.pr_of ?n0); (case n0 => walk_at "at"))
  | ((with_reducible refine' Y.pr_new ?n0 ?n1); (case n0 => with_reducible assumption); (case n1 => walk_at "pr"))
  | ((with_reducible refine' Y.pr_put ?n0 ?n1); (case n0 => walk_at "at"); (case n1 => walk_at "pr"))
  | ((with_reducible refine' Y.pr_same ?n0 ?n1); (case n0 => with_reducible assumption); (case n1 => walk_at "pr"))
  | ((with_reducible refine' Y.pr_kp ?n0 ?n2 ?n1); (case n0 => with_reducible assumption); (case n2 => walk_at "tp"); (case n1 => walk_at "pr"))
  | fail)
local macro_rules | `(tactic| walk_at "prs") => `(tactic| first
  | with_reducible assumption
  | with_reducible exact Y.prs_nil
  | ((with_reducible refine' Y.prs_snoc ?n0 ?n1); (case n0 => walk_at "prs"); (case n1 => walk_at "pr"))
  | ((with_reducible refine' Y.prs_cons ?n0 ?n1); (case n0 => walk_at "pr"); (case n1 => walk_at "prs"))
  | ((with_reducible refine' Y.prs_rev ?n0); (case n0 => walk_at "prs"))
  | ((with_reducible refine' Y.prs_app ?n0 ?n1); (case n0 => walk_at "prs"); (case n1 => walk_at "prs"))
  | ((with_reducible refine' Y.prs_new ?n0 ?n1); (case n0 => with_reducible assumption); (case n1 => walk_at "prs"))
  | ((with_reducible refine' Y.prs_put ?n0 ?n1); (case n0 => walk_at "at"); (case n1 => walk_at "prs"))
  | ((with_reducible refine' Y.prs_same ?n0 ?n1); (case n0 => with_reducible assumption); (case n1 => walk_at "prs"))
  | ((with_reducible refine' Y.prs_kp ?n0 ?n2 ?n1); (case n0 => with_reducible assumption); (case n2 => walk_at "tp"); (case n1 => walk_at "prs"))
  | fail)
local macro_rules | `(tactic| walk_at "up") => `(tactic| first
  | with_reducible assumption
  | with_reducible exact Y.up_nil
  | ((with_reducible refine' Y.Can.up ?n0); (case n0 => with_reducible assumption))
  | ((with_reducible refine' Y.up_rev ?n0); (case n0 => walk_at "up"))
  | ((with_reducible refine' Y.up_app ?n0 ?n1); (case n0 => walk_at "up"); (case n1 => walk_at "up"))
  | fail)
local macro_rules | `(tactic| walk_at "sq") => `(tactic| first
  | assumption
  | (refine' SqL.of ?n0; (case n0 => walk_at "at"))
  | (refine' SqT.of ?n0; (case n0 => walk_at "at"))
  | ((with_reducible refine' Y.sql_new ?n0 ?n1); (case n0 => with_reducible assumption); (case n1 => walk_at "sq"))
  | ((with_reducible refine' Y.sql_same ?n0 ?n1); (case n0 => with_reducible assumption); (case n1 => walk_at "sq"))
  | ((with_reducible refine' Y.sqt_new ?n0 ?n1); (case n0 => with_reducible assumption); (case n1 => walk_at "sq"))
  | ((with_reducible refine' Y.sqt_same ?n0 ?n1); (case n0 => with_reducible assumption); (case n1 => walk_at "sq"))
  | ((with_reducible refine' Y.sq_or ?n0); (case n0 => walk_at "at"))
  | ((with_reducible refine' Y.sq_orT ?n0); (case n0 => walk_at "at"))
  | ((with_reducible refine' Or.inl ?n0); (case n0 => walk_at "sq"))
  | ((with_reducible refine' Or.inr ?n0); (case n0 => walk_at "sq"))
  | fail)
local macro_rules | `(tactic| walk_at "dp") => `(tactic| first
  | assumption
  | exact Dp.int _
  | exact Dp.str _
  | exact Dp.bl _
  | exact Dp.non
  | (refine' Dp.tup ?s0 ?a0; (case s0 => walk_at "sq"); (case a0 => walk_at "dpa"))
  | (refine' Dp.lst ?s0 ?a0; (case s0 => walk_at "sq"); (case a0 => walk_at "dpa"))
  | fail)
local macro_rules | `(tactic| walk_at "dpa") => `(tactic| first
  | exact DpAll.nil
  | exact Y.dp_ints _
  | (refine' DpAll.cons ?a0 ?b0; (case a0 => walk_at "dp"); (case b0 => walk_at "dpa"))
  | fail)
local macro_rules | `(tactic| walk_at "sh") => `(tactic| first
  | assumption
  | exact ⟨by simp [PyData.canLay0, PyData.canLayAll0], by simp [PyData.depth, PyData.depthAll]⟩
  | fail)
local macro_rules | `(tactic| walk_at "sd") => `(tactic| ((try dsimp only); first
  | omega
  | assumption
  | exact rfl
  | decide
  | exact Or.inl ⟨by omega, by omega⟩
  | exact Or.inr ⟨by omega, by omega⟩
  | exact ⟨by first | assumption | omega | decide, by first | assumption | omega | decide⟩
  | exact ⟨by decide, by decide, by decide⟩
  | exact ⟨by omega, Y.log9 (by omega) (by omega)⟩
  | (simp only [List.length_map, List.length_append, List.length_cons, List.length_nil, List.length_singleton, List.length_reverse, sizeLine_eq]; omega)
  | fail))
local macro_rules | `(tactic| walk_at "rf") => `(tactic| exact rfl)
local macro_rules | `(tactic| walk_at "ai") => `(tactic| first
  | assumption
  | ((with_reducible refine' Y.at_k0 ?r); (case r => exact rfl))
  | ((with_reducible refine' Y.at_k1 ?r); (case r => exact rfl))
  | ((with_reducible refine' Y.at_k2 ?r); (case r => exact rfl))
  | ((with_reducible refine' Y.at_k3 ?r); (case r => exact rfl))
  | ((with_reducible refine' Y.at_k4 ?r); (case r => exact rfl))
  | ((with_reducible refine' Y.at_k5 ?r); (case r => exact rfl))
  | ((with_reducible refine' Y.at_k6 ?r); (case r => exact rfl))
  | ((with_reducible refine' Y.at_k7 ?r); (case r => exact rfl))
  | ((with_reducible refine' Y.atI_map ?r); (case r => assumption))
  | ((with_reducible refine' Y.ix_k0 ?r); (case r => walk_at "sd"))
  | ((with_reducible refine' Y.ix_k1 ?r); (case r => walk_at "sd"))
  | ((with_reducible refine' Y.ix_k2 ?r); (case r => walk_at "sd"))
  | ((with_reducible refine' Y.ix_k3 ?r); (case r => walk_at "sd"))
  | (with_reducible exact Y.at_last _ _)
  | ((with_reducible refine' Y.ix_last ?r); (case r => walk_at "sd"))
  | ((with_reducible refine' Y.ix_zero ?r); (case r => simp))
  | fail)
local macro_rules | `(tactic| walk_at "isi") => `(tactic| first
  | (with_reducible refine Y.g_isi_int_int ?_)
  | (with_reducible refine Y.g_isi_int_bool ?_)
  | (with_reducible refine Y.g_isi_int_str ?_)
  | (with_reducible refine Y.g_isi_int_list ?_)
  | (with_reducible refine Y.g_isi_int_tuple ?_)
  | (with_reducible refine Y.g_isi_bl_int ?_)
  | (with_reducible refine Y.g_isi_bl_bool ?_)
  | (with_reducible refine Y.g_isi_bl_str ?_)
  | (with_reducible refine Y.g_isi_bl_list ?_)
  | (with_reducible refine Y.g_isi_bl_tuple ?_)
  | (with_reducible refine Y.g_isi_str_int ?_)
  | (with_reducible refine Y.g_isi_str_bool ?_)
  | (with_reducible refine Y.g_isi_str_str ?_)
  | (with_reducible refine Y.g_isi_str_list ?_)
  | (with_reducible refine Y.g_isi_str_tuple ?_)
  | (with_reducible refine Y.g_isi_non_int ?_)
  | (with_reducible refine Y.g_isi_non_bool ?_)
  | (with_reducible refine Y.g_isi_non_str ?_)
  | (with_reducible refine Y.g_isi_non_list ?_)
  | (with_reducible refine Y.g_isi_non_tuple ?_)
  | ((with_reducible refine' Y.g_isi_lst_int ?h ?_); (case h => walk_at "at"))
  | ((with_reducible refine' Y.g_isi_lst_bool ?h ?_); (case h => walk_at "at"))
  | ((with_reducible refine' Y.g_isi_lst_str ?h ?_); (case h => walk_at "at"))
  | ((with_reducible refine' Y.g_isi_lst_list ?h ?_); (case h => walk_at "at"))
  | ((with_reducible refine' Y.g_isi_lst_tuple ?h ?_); (case h => walk_at "at"))
  | ((with_reducible refine' Y.g_isi_tup_int ?h ?_); (case h => walk_at "at"))
  | ((with_reducible refine' Y.g_isi_tup_bool ?h ?_); (case h => walk_at "at"))
  | ((with_reducible refine' Y.g_isi_tup_str ?h ?_); (case h => walk_at "at"))
  | ((with_reducible refine' Y.g_isi_tup_list ?h ?_); (case h => walk_at "at"))
  | ((with_reducible refine' Y.g_isi_tup_tuple ?h ?_); (case h => walk_at "at"))
  | fail)
local macro_rules | `(tactic| walk_at "s1") => `(tactic| first
  | ((with_reducible refine' Y.g_var ?h ?_); (case h => exact rfl))
  | (with_reducible refine Y.g_c ?_)
  | (with_reducible refine Y.g_op ?_)
  | (with_reducible refine Y.g_cons ?_)
  | (with_reducible refine Y.g_nil ?_)
  | (with_reducible refine Y.g_test ?_)
  | (with_reducible refine Y.g_cb ?_)
  | (with_reducible refine Y.g_seqA ?_)
  | (with_reducible refine Y.g_seqR ?_)
  | (with_reducible refine Y.g_seqD ?_)
  | (with_reducible refine Y.g_seqF ?_)
  | (with_reducible refine Y.g_seqW ?_)
  | (with_reducible refine Y.g_seqP ?_)
  | (with_reducible refine Y.g_asg ?_)
  | (with_reducible refine Y.g_name ?_)
  | (with_reducible refine Y.g_ifS ?_)
  | (with_reducible refine Y.g_pow6 ?_)
  | (with_reducible refine Y.g_pow9 ?_)
  | (with_reducible refine Y.g_pow12 ?_)
  | (with_reducible refine Y.g_pow18 ?_)
  | (with_reducible refine Y.g_pow60 ?_)
  | ((with_reducible refine Y.g_rI ?c ?_); (case c => walk_at "sd"))
  | ((with_reducible refine Y.g_eq ?c ?_); (case c => walk_at "rf"))
  | ((with_reducible refine Y.g_ne ?c ?_); (case c => walk_at "rf"))
  | ((with_reducible refine' Y.g_ixL ?h ?a ?_); (case h => walk_at "sq"); (case a => walk_at "ai"))
  | ((with_reducible refine' Y.g_pick2 ?h ?a ?b fun v hv => ?_); (case h => walk_at "sq"); (case a => assumption); (case b => assumption))
  | ((with_reducible refine' Y.g_pick3 ?h ?a ?b fun v hv => ?_); (case h => walk_at "sq"); (case a => assumption); (case b => assumption))
  | ((with_reducible refine' Y.g_pick4 ?h ?a ?b fun v hv => ?_); (case h => walk_at "sq"); (case a => assumption); (case b => assumption))
  | ((with_reducible refine' Y.g_pick5 ?h ?a ?b fun v hv => ?_); (case h => walk_at "sq"); (case a => assumption); (case b => assumption))
  | ((with_reducible refine' Y.g_pick6 ?h ?a ?b fun v hv => ?_); (case h => walk_at "sq"); (case a => assumption); (case b => assumption))
  | ((with_reducible refine' Y.g_pick7 ?h ?a ?b fun v hv => ?_); (case h => walk_at "sq"); (case a => assumption); (case b => assumption))
  | ((with_reducible refine' Y.g_pick8 ?h ?a ?b fun v hv => ?_); (case h => walk_at "sq"); (case a => assumption); (case b => assumption))
  | ((with_reducible refine' Y.g_pick9 ?h ?a ?b fun v hv => ?_); (case h => walk_at "sq"); (case a => assumption); (case b => assumption))
  | ((with_reducible refine' Y.g_ixT ?h ?a ?_); (case h => walk_at "sq"); (case a => walk_at "ai"))
  | ((with_reducible refine' Y.g_setL ?h ?a ?_); (case h => walk_at "at"); (case a => walk_at "ai"))
  | ((with_reducible refine' Y.g_len ?h ?_); (case h => walk_at "sq"))
  | (with_reducible refine Y.g_call ?_)
  | (with_reducible refine Y.g_tB ?_)
  | (with_reducible refine Y.g_un ?_)
  | (with_reducible refine Y.g_if ?_)
  | (with_reducible refine Y.g_and ?_)
  | (with_reducible refine Y.g_or ?_)
  | (with_reducible refine Y.g_not ?_)
  | (with_reducible refine Y.g_tTup ?_)
  | (with_reducible refine Y.g_tLst ?_)
  | (with_reducible refine Y.g_sl ?_)
  | (with_reducible refine Y.g_pt ?_)
  | (with_reducible refine Y.g_np ?_)
  | (with_reducible refine Y.g_bm ?_)
  | (with_reducible refine Y.g_bm0 ?_)
  | (with_reducible refine Y.g_andV ?_)
  | (with_reducible refine Y.g_orV ?_)
  | (with_reducible refine Y.g_notV ?_)
  | (with_reducible refine Y.g_chain ?_)
  | (with_reducible refine Y.g_ret ?_)
  | (with_reducible refine Y.g_drop ?_)
  | (with_reducible refine Y.g_next ?_)
  | (with_reducible refine Y.g_sub ?_)
  | (with_reducible refine Y.g_gcons ?_)
  | (with_reducible refine Y.g_gnil ?_)
  | (with_reducible refine Y.g_par ?_)
  | (with_reducible refine Y.g_yes ?_)
  | (with_reducible refine Y.g_truth ?_)
  | (with_reducible refine Y.g_lstRg ?_)
  | (with_reducible refine Y.g_rg2 ?_)
  | (with_reducible refine Y.g_rg1 ?_)
  | (with_reducible refine Y.g_exII ?_)
  | (with_reducible refine Y.g_exI ?_)
  | (with_reducible refine Y.g_rng1 ?_)
  | (with_reducible refine Y.g_rng2 ?_)
  | (with_reducible refine Y.g_iList ?_)
  | (with_reducible refine Y.g_iTup ?_)
  | (with_reducible refine Y.g_for ?_)
  | (with_reducible refine Y.g_lc ?_)
  | (with_reducible refine Y.g_rI0 ?_)
  | (with_reducible refine Y.g_isN ?_)
  | (with_reducible refine Y.g_notN ?_)
  | (with_reducible refine Y.g_abs ?_)
  | (with_reducible refine Y.g_neg ?_)
  | (with_reducible refine Y.g_max2 ?_)
  | (with_reducible refine Y.g_min2 ?_)
  | (with_reducible refine Y.g_bl ?_)
  | ((with_reducible refine' Y.g_slL ?h fun p hp => ?_); (case h => walk_at "sq"))
  | ((with_reducible refine' Y.g_extend ?h ?h2 ?z ?_); (case h => walk_at "at"); (case h2 => walk_at "at"); (case z => walk_at "sd"))
  | ((with_reducible refine' Y.g_cat ?h ?h2 ?z fun l hl => ?_); (case h => walk_at "at"); (case h2 => walk_at "at"); (case z => walk_at "sd"))
  | ((with_reducible refine' Y.g_less ?h ?pp ?l ?u ?h2 ?pp2 ?l2 ?u2 fun p H' ys us hs hf ha hp hc hd hn => ?_); (case h => walk_at "sq"); (case pp => walk_at "prs"); (case l => walk_at "sd"); (case u => walk_at "up"); (case h2 => walk_at "sq"); (case pp2 => walk_at "prs"); (case l2 => walk_at "sd"); (case u2 => walk_at "up"))
  | (with_reducible refine Y.g_Lwhole ?_)
  | ((with_reducible refine' Y.g_Lstr ?T ?c0 ?c1 fun p H' ys ts T' k' hf ha hp hk hn => ?_); (case T => walk_at "tp"); (case c0 => walk_at "sd"); (case c1 => walk_at "sd"))
  | ((with_reducible refine' Y.g_Lstr ?T ?c0 fun p H' ys ts T' k' hf ha hp hk hn => ?_); (case T => walk_at "tp"); (case c0 => exact ⟨by omega, by omega, by omega, by omega⟩))
  | ((with_reducible refine' Y.g_Lprices ?T fun p H' ns T' k' hf ha hn => ?_); (case T => walk_at "tp"))
  | (with_reducible refine Y.g_rng3 ?_)
  | (with_reducible refine Y.g_revS ?_)
  | ((with_reducible refine' Y.g_revSb ?h fun l hl => ?_); (case h => walk_at "sq"))
  | (with_reducible refine Y.g_iZip ?_)
  | ((with_reducible refine' Y.g_iZipb ?h ?h2 ?_); (case h => walk_at "sq"); (case h2 => walk_at "sq"))
  | ((with_reducible refine' Y.g_listOf ?h fun p hp => ?_); (case h => walk_at "sq"))
  | ((with_reducible refine' Y.g_append ?h ?z ?_); (case h => walk_at "at"); (case z => walk_at "sd"))
  | ((with_reducible refine Y.g_sz ?z fun p hp => ?_); (case z => walk_at "sd"))
  | ((with_reducible refine' Y.g_gtup ?h ?l ?_); (case h => walk_at "sq"); (case l => walk_at "rf"))
  | ((with_reducible refine' Y.g_tyL ?h ?_); (case h => walk_at "sq"))
  | ((with_reducible refine Y.g_rng1b ?a ?b ?_); (case a => walk_at "sd"); (case b => walk_at "sd"))
  | ((with_reducible refine Y.g_rng2b ?a ?_); (case a => walk_at "sd"))
  | ((with_reducible refine' Y.g_iListb ?h ?_); (case h => walk_at "sq"))
  | ((with_reducible refine' Y.g_iTupb ?h ?_); (case h => walk_at "sq"))
  | ((with_reducible refine' Y.g_draw ?T ?c0 ?c9 fun v H' h0 h1 T' k' => ?_); (case T => walk_at "tp"); (case c0 => walk_at "sd"); (case c9 => walk_at "sd"))
  | ((with_reducible refine' Y.g_tape ?h ?l fun t b s H' hs ht hb hz T => ?_); (case h => assumption); (case l => assumption))
  | ((with_reducible refine' Y.g_Lstr ?T ?c0 ?c9 fun p H' ys ts T' k' hf ha hp hk hn => ?_); (case T => walk_at "tp"); (case c0 => walk_at "sd"); (case c9 => walk_at "sd"))
  | ((with_reducible refine' Y.g_has_day ?h ?p ?l fun H' hs => ?_); (case h => walk_at "sq"); (case p => walk_at "prs"); (case l => walk_at "sd"))
  | ((with_reducible refine' Y.g_Lhas ?h ?p ?l fun H' hs => ?_); (case h => walk_at "sq"); (case p => walk_at "prs"); (case l => walk_at "sd"))
  | ((with_reducible refine' Y.g_Ltwo ?pp ?_); (case pp => walk_at "pr"))
  | ((with_reducible refine' Y.g_Lrising ?h ?p ?c ?l fun H' hs => ?_); (case h => walk_at "at"); (case p => walk_at "prs"); (case c => assumption); (case l => walk_at "sd"))
  | ((with_reducible refine' Y.g_spread ?h ?p ?l ?u fun p H' ys us hs hf ha hp hc hd hn hx hy => ?_); (case h => walk_at "sq"); (case p => walk_at "prs"); (case l => walk_at "sd"); (case u => walk_at "up"))
  | ((with_reducible refine' Y.g_sortedP ?h ?p fun p ys us hp hy hq hw => ?_); (case h => walk_at "sq"); (case p => walk_at "prs"))
  | ((with_reducible refine' Y.g_neD_prs ?h ?h2 ?t ?u ?_); (case h => walk_at "sq"); (case h2 => walk_at "sq"); (case t => walk_at "prs"); (case u => walk_at "prs"))
  | ((with_reducible refine' Y.g_eqD_prs ?h ?h2 ?t ?u ?_); (case h => walk_at "sq"); (case h2 => walk_at "sq"); (case t => walk_at "prs"); (case u => walk_at "prs"))
  | walk_at "isi"
  | ((with_reducible refine' Y.g_nights ?h ?b fun p H' hs hp he => ?_); (case h => walk_at "sq"); (case b => exact ⟨by omega, by omega, by omega, by omega⟩))
  | ((with_reducible refine Y.g_wipe ?h ?_); (case h => exact rfl))
  | (with_reducible refine iteT ?_)
  | (with_reducible refine iteF ?_)
  | (with_reducible refine Y.ite_nt ?_)
  | (with_reducible refine Y.ite_nf ?_)
  | fail)
local macro_rules | `(tactic| walk_at "ss") => `(tactic| repeat walk_at "s1")
local macro_rules | `(tactic| walk_at "st") => `(tactic| repeat (first | walk_at "s1" | (with_reducible refine Y.g_seq ?_)))
def t_Lbundle (K : PySem.W.Frag) : TS :=
  (tSeq (tIfS (tTest (tOp rNe (tBM K "list" (rCntV K) (tVar 1) (tCons (tC (.bl true)) tNil)) (tVar 2)))
  (tRet (tC (.bl false)))
  tNext)
  (tSeq (tFor (iRng1 (tCons (tCB (rLen K) (tCons (tVar 0) tNil)) tNil)) (gName 3)
  (tFor (iRng1 (tCons (tCB (rLen K) (tCons (tVar 0) tNil)) tNil)) (gName 4)
  (tSeq (tAsg (tOrV (tOp rLt (tOp (rIxL K) (tVar 0) (tVar 4)) (tOp (rIxL K) (tVar 0) (tVar 3))) (tAndV (tOp rEq (tOp (rIxL K) (tVar 0) (tVar 4)) (tOp (rIxL K) (tVar 0) (tVar 3))) (tOp rGt (tVar 4) (tVar 3)))) (gName 5))
  (tIfS (tAnd (tB (tOp (rIxL K) (tVar 1) (tVar 3))) (tAnd (tNot (tB (tOp (rIxL K) (tVar 1) (tVar 4)))) (tB (tVar 5))))
  (tRet (tC (.bl false)))
  tNext))))
  (tRet (tC (.bl true)))))
theorem at_int {ps : List Int} {i : Nat} (h : i < ps.length) : ∃ u, ps[i]? = some u ∧ atI (ps.map V.int) (0 + (i : Int)) = some (.int u) := ⟨ps[i], List.getElem?_eq_getElem h, by
  rw [Int.zero_add]
  exact atI_nat (by rw [List.getElem?_map, List.getElem?_eq_getElem h]; rfl)⟩
theorem at_bl {ps : List Bool} {i : Nat} (h : i < ps.length) : ∃ u, ps[i]? = some u ∧ atI (ps.map V.bl) (0 + (i : Int)) = some (.bl u) := ⟨ps[i], List.getElem?_eq_getElem h, by
  rw [Int.zero_add]
  exact atI_nat (by rw [List.getElem?_map, List.getElem?_eq_getElem h]; rfl)⟩
theorem all_flat (bs : List Bool) : (bs.map V.bl).all flatV = true := by
  rw [List.all_eq_true]
  intro x hx
  obtain ⟨b, _, rfl⟩ := List.mem_map.mp hx
  rfl
theorem cnt_true (bs : List Bool) : (bs.map V.bl).countP (fun z => eqV z (.bl true)) = bs.countP id := by
  rw [List.countP_map]
  refine List.countP_congr fun b _ => ?_
  cases b <;> simp [eqV]
theorem pure_Lbundle {K : PySem.W.Frag} {x y z : V} {H : Hp} {Q : VK} {E : XK} (h : sp_Lbundle K [x, y, z] H Q E) : t_Lbundle K { nx := fun _ H' => Q .non H', rt := Q } [some x, some y, some z, none, none, none] H := by
  obtain ⟨x, y, z, e, a, b, ps, bs, f, rfl, rfl, rfl, hS, hB, hl, hn, hc, ho, q⟩ := h
  cases e
  unfold t_Lbundle
  walk_at "ss"
  refine g_cntV hB rfl (all_flat bs) ?_
  rw [cnt_true, hc]
  walk_at "ss"
  refine ite_ndt rfl ?_
  walk_at "ss"
  refine for_range (lo := 0) (n := (((ps.map V.int).length : Nat) : Int).toNat) (fun i σ H' => ∃ v3 v4 v5, σ = [some (.ref a), some (.ref b), some (.int f), v3, v4, v5] ∧ H' = H) ⟨_, _, _, rfl, rfl⟩ ?_ ?_
  · rintro i σ H' hi ⟨v3, v4, v5, rfl, rfl⟩
    rw [List.length_map, Int.toNat_natCast] at hi
    walk_at "ss"
    refine for_range (lo := 0) (n := (((ps.map V.int).length : Nat) : Int).toNat) (fun j σ H2 => ∃ v4 v5, σ = [some (.ref a), some (.ref b), some (.int f), some (.int (0 + (i : Int))), v4, v5] ∧ H2 = H') ⟨_, _, rfl, rfl⟩ ?_ ?_
    · rintro j σ H2 hj ⟨v4, v5, rfl, rfl⟩
      rw [List.length_map, Int.toNat_natCast] at hj
      obtain ⟨u, hu, hu'⟩ := at_int hi
      obtain ⟨v, hv, hv'⟩ := at_int hj
      obtain ⟨c, hcb, hcb'⟩ := at_bl (show i < bs.length by omega)
      obtain ⟨d, hdb, hdb'⟩ := at_bl (show j < bs.length by omega)
      walk_at "ss"
      have hno := ho i j u v
      cases c <;> cases d
      all_goals
        refine ite_d (fun h1 => ?_) fun h1 => ?_
        · walk_at "ss"
          first
            | exact ⟨_, _, rfl, rfl⟩
            | exact absurd (.inl h1) (hno hcb hdb hu hv)
        · walk_at "ss"
          refine ite_d (fun h2 => ?_) fun h2 => ?_
          · walk_at "ss"
            first
              | exact ⟨_, _, rfl, rfl⟩
              | (refine ite_d (fun h3 => ?_) fun h3 => ?_
                 · exact absurd (.inr ⟨by simpa using h2, by omega⟩) (hno hcb hdb hu hv)
                 · walk_at "ss"
                   exact ⟨_, _, rfl, rfl⟩)
          · walk_at "ss"
            exact ⟨_, _, rfl, rfl⟩
    · rintro σ H2 ⟨v4, v5, rfl, rfl⟩
      exact ⟨_, _, _, rfl, rfl⟩
  · rintro σ H2 ⟨v3, v4, v5, rfl, rfl⟩
    walk_at "ss"
    exact q
def t_Lprices (K : PySem.W.Frag) : TS :=
  (tSeq (tAsg (tOp (rIxL K) (tLst (tCons (tCall (sp_Ldraw K) [] E0 (tCons (tVar 0) (tCons (tC (.int 15)) tNil))) (tCons (tCall (sp_Ldraw K) [] E0 (tCons (tVar 0) (tCons (tC (.int 31)) tNil))) tNil))) (tCall (sp_Ldraw K) [] E0 (tCons (tVar 0) (tCons (tC (.int 2)) tNil)))) (gName 1))
  (tSeq (tAsg (tCall (sp_Ldraw K) [] E0 (tCons (tVar 0) (tCons (tOp rPow (tC (.int 10)) (tC (.int 12))) tNil))) (gName 2))
  (tSeq (tAsg (tCall (sp_Ldraw K) [] E0 (tCons (tVar 0) (tCons (tC (.int 3)) tNil))) (gName 3))
  (tSeq (tIfS (tTest (tOp rEq (tVar 3) (tC (.int 0))))
  (tRet (tLc (iRng1 (tCons (tVar 1) tNil)) (gName 4) tYes (tOp (rIxL K) (tLst (tCons (tVar 2) (tCons (tOp rAdd (tVar 2) (tC (.int 1))) tNil))) (tCall (sp_Ldraw K) [] E0 (tCons (tVar 0) (tCons (tC (.int 2)) tNil)))) [4]))
  tNext)
  (tSeq (tIfS (tTest (tOp rEq (tVar 3) (tC (.int 1))))
  (tRet (tLc (iRng1 (tCons (tVar 1) tNil)) (gName 4) tYes (tCall (sp_Ldraw K) [] E0 (tCons (tVar 0) (tCons (tC (.int 6)) tNil))) [4]))
  tNext)
  (tRet (tLc (iRng1 (tCons (tVar 1) tNil)) (gName 4) tYes (tOp (rIxL K) (tLst (tCons (tC (.int 0)) (tCons (tOp rPow (tC (.int 10)) (tC (.int 12))) (tCons (tCall (sp_Ldraw K) [] E0 (tCons (tVar 0) (tCons (tOp rAdd (tOp rPow (tC (.int 10)) (tC (.int 12))) (tC (.int 1))) tNil))) tNil)))) (tCall (sp_Ldraw K) [] E0 (tCons (tVar 0) (tCons (tC (.int 3)) tNil)))) [4])))))))
theorem pure_Lprices {K : PySem.W.Frag} {x : V} {H : Hp} {Q : VK} {E : XK} (h : sp_Lprices K [x] H Q E) : t_Lprices K { nx := fun _ H' => Q .non H', rt := Q } [some x, none, none, none, none] H := by
  obtain ⟨x, e, t, b, s, rfl, T, q⟩ := h
  cases e
  unfold t_Lprices
  walk_at "ss"
  rename_i d1 H1 d10 d11 T1 k1 d2 H2 d20 d21 T2 k2 pl hpl d3 H3 d30 d31 T3 k3 m hm d4 H4 d40 d41 T4 k4 d5 H5 d50 d51 T5 k5
  have hm0 : 0 ≤ m ∧ m ≤ 30 := by rcases hm with h | h <;> omega
  have nn : (0 : Int) ≤ 0 := by omega
  have kk : Kp [t, b] H H5 := by walk_at "kp"
  clear k5 k4 k3 hpl k2 k1 T1 T2 T3 T4 hm d10 d11 d20 d21 d30 d31
  have fin : ∀ D H' (ns : List Int), Fr H5 D → Tape H' t b s → Kp [t, b] H5 H' → H' D = some (.lst (ns.map V.int)) → ns.length = m.toNat → (∀ z ∈ ns, True) → Q (.ref D) H' := fun D H' ns hD T' k' hd hn _ =>
    q D H' ns T' (kk.trans k') (fr_kp hD kk (ni_tape hD T5)) hd (by omega)
  refine ite_b (fun _ => ?_) fun _ => ?_
  · walk_at "ss"
    refine lc_d (lo := 0) (n := m.toNat) T5 (fun _ => True) (by omega) ?_ fin
    intro D i H6 N acc hD hi T6 h6 nD hN
    walk_at "ss"
    exact hN _ _ trivial (by walk_at "tp") (by walk_at "kp")
  walk_at "ss"
  refine ite_b (fun _ => ?_) fun _ => ?_
  · walk_at "ss"
    refine lc_d (lo := 0) (n := m.toNat) T5 (fun _ => True) (by omega) ?_ fin
    intro D i H6 N acc hD hi T6 h6 nD hN
    walk_at "ss"
    exact hN _ _ trivial (by walk_at "tp") (by walk_at "kp")
  walk_at "ss"
  refine lc_d (lo := 0) (n := m.toNat) T5 (fun _ => True) (by omega) ?_ fin
  intro D i H6 N acc hD hi T6 h6 nD hN
  walk_at "ss"
  exact hN _ _ trivial (by walk_at "tp") (by walk_at "kp")
theorem cutN {α : Type} {f : α → V} {xs : List α} {a b : Nat} {i j : Int} (hi : i = a) (hj : j = b) : cutV (xs.map f) (some i) (some j) = ((xs.take b).drop a).map f := by
  subst hi hj
  rw [cut_mid (by omega) (by omega), Int.toNat_natCast, Int.toNat_natCast, List.map_drop, List.map_take]
theorem cutF {α : Type} {f : α → V} {xs : List α} {a : Nat} {i : Int} (hi : i = a) : cutV (xs.map f) (some i) none = (xs.drop a).map f := by
  subst hi
  rw [cut_from (by omega), Int.toNat_natCast, List.map_drop]
theorem mk_slice {ps : List Int} {m f k : Nat} (hm : 0 < m) (hk : k < ps.length / m) : ((mk ps m f).take (k * m + m)).drop (k * m) = (List.range m).map fun i => isMk ps m f (k * m + i) := by
  have h1 := Nat.div_mul_le_self ps.length m
  have h2 : (k + 1) * m ≤ ps.length / m * m := Nat.mul_le_mul_right m hk
  rw [Nat.add_mul, Nat.one_mul] at h2
  exact slice_map _ _ _ _ (by omega)
theorem get_range {β : Type} {n i : Nat} {g : Nat → β} {b : β} (h : ((List.range n).map g)[i]? = some b) : i < n ∧ g i = b := by
  obtain ⟨h1, h2⟩ := List.getElem?_eq_some_iff.mp h
  rw [List.length_map, List.length_range] at h1
  exact ⟨h1, by simpa using h2⟩
theorem mk_order {ps : List Int} {m f k : Nat} (hm : 0 < m) (hk : k < ps.length / m) (i j : Nat) (u v : Int) (h1 : (((mk ps m f).take (k * m + m)).drop (k * m))[i]? = some true) (h2 : (((mk ps m f).take (k * m + m)).drop (k * m))[j]? = some false)
    (h3 : ((ps.take (k * m + m)).drop (k * m))[i]? = some u) (h4 : ((ps.take (k * m + m)).drop (k * m))[j]? = some v) : ¬ (v < u ∨ (v = u ∧ i < j)) := by
  rw [mk_slice hm hk] at h1 h2
  obtain ⟨hi, h1⟩ := get_range h1
  obtain ⟨hj, h2⟩ := get_range h2
  rw [List.getElem?_drop, List.getElem?_take_of_lt (by omega)] at h3 h4
  intro h
  have e1 : ps.getD (k * m + i) 0 = u := by rw [List.getD_eq_getElem?_getD, h3]; rfl
  have e2 : ps.getD (k * m + j) 0 = v := by rw [List.getD_eq_getElem?_getD, h4]; rfl
  have hlt : ltP (key ps (k * m + j)) (key ps (k * m + i)) = true := by
    rw [ltP_iff]
    unfold key
    show ps.getD (k * m + j) 0 < ps.getD (k * m + i) 0 ∨ (ps.getD (k * m + j) 0 = ps.getD (k * m + i) 0 ∧ (ps.length : Int) - ((k * m + j : Nat) : Int) < (ps.length : Int) - ((k * m + i : Nat) : Int))
    rw [e1, e2]
    rcases h with h | ⟨h, h'⟩
    · exact .inl h
    · exact .inr ⟨h, by omega⟩
  have hr := near_rank hm hi hj hlt
  have ej : (k * m + j) / m = k := by rw [Nat.mul_comm, Nat.mul_add_div hm, Nat.div_eq_of_lt hj, Nat.add_zero]
  unfold isMk at h1 h2
  rw [ej] at h2
  simp only [Bool.and_eq_true, decide_eq_true_eq] at h1
  simp only [Bool.and_eq_false_iff, decide_eq_false_iff_not] at h2
  rcases h2 with h2 | h2
  · exact h2 hk
  · omega
theorem mk_rest {ps : List Int} {m f : Nat} (hm : 0 < m) : inV (.bl true) (((mk ps m f).drop (ps.length / m * m)).map V.bl) = false := by
  unfold inV
  rw [List.any_eq_false]
  intro x hx
  obtain ⟨b, hb, rfl⟩ := List.mem_map.mp hx
  obtain ⟨i, hi, e⟩ := List.mem_iff_getElem.mp hb
  have h1 : ((List.range ps.length).map fun p => isMk ps m f p)[ps.length / m * m + i]? = some b := by
    have h2 : ((mk ps m f).drop (ps.length / m * m))[i]? = some b := List.getElem?_eq_some_iff.mpr ⟨hi, e⟩
    rw [List.getElem?_drop] at h2
    exact h2
  obtain ⟨_, h3⟩ := get_range h1
  have h4 : ps.length / m ≤ (ps.length / m * m + i) / m := by
    rw [Nat.mul_comm, Nat.mul_add_div hm]
    exact Nat.le_add_right _ _
  unfold isMk at h3
  rw [decide_eq_false (by omega), Bool.false_and] at h3
  subst h3
  decide
theorem dealAt_kp {H H' : Hp} {y : V} {d : Option (Int × Int)} (e : Same H H') (h : DealAt H y d) : DealAt H' y d := by
  cases d with
  | none => exact h
  | some d => exact ⟨pr_same e h.1, h.2⟩
def sp_law (K : PySem.W.Frag) : Sp := Sp1 fun x H Q E => ∃ (a : Addr) (ns : List Int), x = .ref a ∧ SqL K H a (ns.map V.int) ∧ ns.length ≤ 63 ∧ ∀ H', Q (.bl true) H'
def t_law (K : PySem.W.Frag) : TS :=
  (tSeq (tAsg (tCall (sp_Ltape K) [] E0 (tCons (tVar 0) tNil)) (gName 1))
  (tSeq (tFor (iRng1 (tCons (tC (.int 8)) tNil)) (gName 2)
  (tSeq (tAsg (tCall (sp_Lprices K) [] E0 (tCons (tVar 1) tNil)) (gName 3))
  (tSeq (tAsg (tOp (rIxL K) (tLst (tCons (tOp rAdd (tC (.int 2)) (tCall (sp_Ldraw K) [] E0 (tCons (tVar 1) (tCons (tC (.int 13)) tNil)))) (tCons (tCB rMin2 (tCons (tC (.int 14)) (tCons (tCB rMax2 (tCons (tC (.int 2)) (tCons (tOp rAdd (tOp rSub (tCB (rLen K) (tCons (tVar 3) tNil)) (tC (.int 1))) (tCall (sp_Ldraw K) [] E0 (tCons (tVar 1) (tCons (tC (.int 3)) tNil)))) tNil))) tNil))) tNil))) (tCall (sp_Ldraw K) [] E0 (tCons (tVar 1) (tCons (tC (.int 2)) tNil)))) (gName 4))
  (tSeq (tAsg (tOp (rIxL K) (tLst (tCons (tC (.int 1)) (tCons (tOp rSub (tVar 4) (tC (.int 1))) (tCons (tOp rAdd (tC (.int 1)) (tCall (sp_Ldraw K) [] E0 (tCons (tVar 1) (tCons (tOp rSub (tVar 4) (tC (.int 1))) tNil)))) tNil)))) (tCall (sp_Ldraw K) [] E0 (tCons (tVar 1) (tCons (tC (.int 3)) tNil)))) (gName 5))
  (tSeq (tAsg (tCB (rListOf K) (tCons (tVar 3) tNil)) (gName 6))
  (tSeq (tAsg (tCall (sp_marked K) [] E0 (tCons (tVar 6) (tCons (tTup (tCons (tVar 4) (tCons (tVar 5) tNil))) tNil))) (gName 7))
  (tSeq (tIfS (tOr (tNot (tB (tCB (rIsi K) (tCons (tVar 7) (tCons (tC (.ty "list")) tNil))))) (tOr (tTest (tOp rNe (tCB (rLen K) (tCons (tVar 7) tNil)) (tCB (rLen K) (tCons (tVar 3) tNil)))) (tTest (tOp (rNeD K) (tVar 6) (tVar 3)))))
  (tRet (tC (.bl false)))
  tNext)
  (tSeq (tIfS (tNot (tB (tCB (rAll K) (tCons (tLc (iList K (tVar 7)) (gName 10) tYes (tCB (rIsi K) (tCons (tVar 10) (tCons (tC (.ty "bool")) tNil))) [10]) tNil))))
  (tRet (tC (.bl false)))
  tNext)
  (tSeq (tAsg (tOp rDivW (tCB (rLen K) (tCons (tVar 3) tNil)) (tVar 4)) (gName 8))
  (tSeq (tFor (iRng1 (tCons (tVar 8) tNil)) (gName 9)
  (tIfS (tNot (tB (tCall (sp_Lbundle K) [] E0 (tCons (tSl (rSlL K) (tVar 3) (tPart (tOp rMul (tVar 9) (tVar 4))) (tPart (tOp rAdd (tOp rMul (tVar 9) (tVar 4)) (tVar 4)))) (tCons (tSl (rSlL K) (tVar 7) (tPart (tOp rMul (tVar 9) (tVar 4))) (tPart (tOp rAdd (tOp rMul (tVar 9) (tVar 4)) (tVar 4)))) (tCons (tVar 5) tNil))))))
  (tRet (tC (.bl false)))
  tNext))
  (tIfS (tOr (tTest (tOp (rIn K false) (tC (.bl true)) (tSl (rSlL K) (tVar 7) (tPart (tOp rMul (tVar 8) (tVar 4))) tNoPart))) (tTest (tOp (rNeD K) (tCall (sp_marked K) [] E0 (tCons (tCB (rListOf K) (tCons (tVar 3) tNil)) (tCons (tC .non) tNil))) (tLc (iList K (tVar 3)) (gName 10) tYes (tC (.bl false)) [10]))))
  (tRet (tC (.bl false)))
  tNext)))))))))))
  (tRet (tC (.bl true)))))
theorem pure_law {K : PySem.W.Frag} {x : V} {H : Hp} {Q : VK} {E : XK} (h : sp_law K [x] H Q E) : t_law K { nx := fun _ H' => Q .non H', rt := Q } [some x, none, none, none, none, none, none, none, none, none, none] H := by
  obtain ⟨x, e, a, ns, rfl, hS, hl, q⟩ := h
  cases e
  unfold t_law
  walk_at "ss"
  rename_i t b s H1 s1 ft fb fz T1
  refine for_range (lo := 0) (n := Int.toNat 8) (fun i σ H => ∃ v2 v3 v4 v5 v6 v7 v8 v9 v10, σ = [some (.ref a), some (.ref t), v2, v3, v4, v5, v6, v7, v8, v9, v10] ∧ Tape H t b s) ⟨_, _, _, _, _, _, _, _, _, rfl, T1⟩ ?_ ?_
  · clear hS hl s1 ft fb fz T1 H1 H
    rintro i σ H - ⟨v2, v3, v4, v5, v6, v7, v8, v9, v10, rfl, T⟩
    walk_at "ss"
    rename_i sp H1 ps T1 k1 fsp hsp hps d1 H2 d10 d11 T2 k2 d2 H3 d20 d21 T3 k3 pl hpl d3 H4 d30 d31 T4 k4 m hm d4 H5 d40 d41 T5 k5 pl2 hpl2 d5 H6 d50 d51 T6 k6 f hf ha hha dt hdt
    have hmb : 2 ≤ m ∧ m ≤ 14 := by
      rcases hm with h | h
      · omega
      · split at h
        · split at h <;> omega
        · omega
    have hfb : 1 ≤ f ∧ f ≤ m - 1 := by rcases hf with h | h | h <;> omega
    obtain ⟨hm0, hm1⟩ := hmb
    obtain ⟨hf0, hf1⟩ := hfb
    have nsp : sp ∉ [t, b] := ni_tape fsp T
    have hsp6 : H6 sp = some (.lst (ps.map V.int)) := by walk_at "at"
    have hsp7 : (upd (upd H6 ha (.lst (ps.map V.int))) dt (.tup [.int m, .int f])) sp = some (.lst (ps.map V.int)) := by walk_at "at"
    have hha7 : (upd (upd H6 ha (.lst (ps.map V.int))) dt (.tup [.int m, .int f])) ha = some (.lst (ps.map V.int)) := by walk_at "at"
    refine g_marked (some (m, f)) (SqL.of hha7) (by omega) ⟨⟨dt, rfl, upd_same⟩, by show 0 < m; omega, by show m ≤ 1000; omega, by show 0 ≤ f; omega⟩ fun lm H7 s7 f7 h7 => ?_
    have T7 : Tape H7 t b s := by walk_at "tp"
    replace hsp7 := s7 _ _ hsp7
    replace hha7 := s7 _ _ hha7
    clear f7 s7 hsp6 nsp hf hm hha hdt T6 k6 T5 k5 T4 k4 T3 k3 T2 k2 T1 k1 hsp fsp hpl hpl2 d50 d51 d40 d41 d30 d31 d20 d21 d10 d11
    have hbl : (mkO ps (some (m, f))).length = ps.length := mkO_len _ _
    walk_at "ss"
    refine ite_ndt (by rw [List.length_map, List.length_map, hbl]) ?_
    walk_at "ss"
    refine g_neD_ints (ns := ps) (ms := ps) (by walk_at "sq") (by walk_at "sq") ?_
    walk_at "ss"
    refine ite_ndt rfl ?_
    walk_at "ss"
    refine lc_w (f := fun _ => some (.bl true)) (walk_list (K := K) (a := lm) (xs := (mkO ps (some (m, f))).map V.bl)) (by rw [List.length_map]; omega) (fun H' s => SqL.of (s _ _ h7)) ?_ ?_
    · rintro D j x H8 H9 N hD hj s8 ⟨rfl, hx⟩ hN _
      obtain ⟨c, rfl, -⟩ := map_get hx
      walk_at "ss"
      exact hN _ _ rfl (Same.refl _)
    intro D H8 hD s8 hD8
    rw [range_all] at hD8
    walk_at "ss"
    refine g_all (SqL.of hD8) ?_
    rw [all_rep]
    walk_at "ss"
    have T8 : Tape H8 t b s := by walk_at "tp"
    have hsp8 := s8 _ _ hsp7
    have hlm8 := s8 _ _ h7
    clear hD8 s8 h7 hha7 hsp7 T7 hD
    obtain ⟨mn, rfl⟩ : ∃ n : Nat, m = n := ⟨m.toNat, by omega⟩
    obtain ⟨fn, rfl⟩ : ∃ n : Nat, f = n := ⟨f.toNat, by omega⟩
    have ew : (((ps.map V.int).length : Nat) : Int) / (mn : Int) = ((ps.length / mn : Nat) : Int) := by
      rw [List.length_map]
      exact Int.ofNat_ediv_ofNat ..
    have hwl : ps.length / mn ≤ ps.length := Nat.div_le_self _ _
    rw [ew]
    obtain ⟨w, hw⟩ : ∃ w, w = ps.length / mn := ⟨_, rfl⟩
    rw [← hw] at hwl ⊢
    walk_at "ss"
    rw [Int.toNat_natCast]
    refine for_range (lo := 0) (n := w) (fun k σ H' => ∃ v9, σ = [some (.ref a), some (.ref t), some (.int (0 + (i : Int))), some (.ref sp), some (.int mn), some (.int fn), some (.ref ha), some (.ref lm), some (.int (w : Int)), v9, v10] ∧ Same H8 H') ⟨_, rfl, Same.refl _⟩ ?_ ?_
    · rintro k σ H9 hk ⟨v9, rfl, s9⟩
      walk_at "ss"
      rename_i p1 hp1 p2 hp2
      have hmn : 0 < mn := by omega
      have hA : (0 + (k : Int)) * (mn : Int) = ((k * mn : Nat) : Int) := by rw [Int.zero_add, Int.natCast_mul]
      have hB : (0 + (k : Int)) * (mn : Int) + (mn : Int) = ((k * mn + mn : Nat) : Int) := by rw [hA]; omega
      have hk' : k < ps.length / mn := by omega
      refine g_Lbundle (ps := (ps.take (k * mn + mn)).drop (k * mn)) (bs := ((mk ps mn fn).take (k * mn + mn)).drop (k * mn)) (SqL.of ?ga1) (SqL.of ?ga2) ?ga3 ?ga4 ?ga5 (mk_order hmn hk') ?_
      case ga1 =>
        rw [← cutN hA hB]
        exact at_new hp2 upd_same
      case ga2 =>
        rw [← cutN hA hB]
        exact upd_same
      case ga3 =>
        have e : (mk ps mn fn).length = ps.length := hbl
        rw [List.length_drop, List.length_take, List.length_drop, List.length_take, e]
      case ga4 =>
        rw [List.length_drop, List.length_take]
        omega
      case ga5 =>
        rw [mk_slice hmn hk', cnt_bund hmn hk' (by omega)]
      walk_at "ss"
      exact ⟨_, rfl, by walk_at "sm"⟩
    · rintro σ H9 ⟨v9, rfl, s9⟩
      walk_at "ss"
      rename_i p1 hp1
      have hmn : 0 < mn := by omega
      have eC : cutV ((mkO ps (some ((mn : Int), (fn : Int)))).map V.bl) (some ((w : Int) * (mn : Int))) none = ((mk ps mn fn).drop (w * mn)).map V.bl := cutF (by rw [Int.natCast_mul])
      have hsp9 := s9 _ _ hsp8
      rw [eC]
      refine ⟨p1, _, rfl, .inl (SqL.of upd_same), rfl, all_flat _, ?_⟩
      rw [hw, mk_rest hmn]
      walk_at "ss"
      refine ite_f rfl ?_
      walk_at "ss"
      rename_i p2 hp2
      refine g_marked none (ps := ps) (SqL.of upd_same) (by omega) rfl fun l2 H10 s10 f10 h10 => ?_
      have hsp10 := s10 _ _ (at_new hp2 (at_new hp1 hsp9))
      have T10 : Tape H10 t b s := by walk_at "tp"
      walk_at "ss"
      refine lc_w (f := fun _ => some (.bl false)) (walk_list (K := K) (a := sp) (xs := ps.map V.int)) (by rw [List.length_map]; omega) (fun H' s => SqL.of (s _ _ hsp10)) ?_ ?_
      · rintro D j x H11 H12 N hD hj s11 ⟨rfl, hx⟩ hN _
        walk_at "ss"
        exact hN _ _ rfl (Same.refl _)
      intro D H11 hD s11 hD11
      rw [range_no, List.length_map] at hD11
      refine g_neD_bls (SqL.of (s11 _ _ h10)) (SqL.of hD11) ?_
      walk_at "ss"
      refine ite_ndt rfl ?_
      walk_at "ss"
      exact ⟨_, _, _, _, _, _, _, _, _, rfl, by walk_at "tp"⟩
  · rintro σ H ⟨v2, v3, v4, v5, v6, v7, v8, v9, v10, rfl, T⟩
    walk_at "ss"
    exact q _
end Y
namespace Y
open PySem PySem.Spec PyProof.Rows L2
def top (i : Nat) : Stmt := PySem.Challenge.pw_stayprice_k31_marked.main.body.getD i (.Pass ⟨0, 0, 0, 0⟩)
abbrev FD (K : PySem.W.Frag) (x : Str) (st : Stmt) (f : Addr) (fd : FuncData) : Prop := FunD K x x (defArgs st) (defBody st) (defScope st) [] [] f fd
abbrev s_Ltape : Stmt := top 3
abbrev s_Ldraw : Stmt := top 4
abbrev s_Lprices : Stmt := top 5
abbrev s_marked : Stmt := top 1
abbrev s_Lbundle : Stmt := top 6
abbrev s_law : Stmt := top 7
/-- what the module's names hold -/
structure Txt (K : PySem.W.Frag) (mg : Str → Option Value) : Prop where
  b_abs : mg "abs" = none
  b_all : mg "all" = none
  b_bool : mg "bool" = none
  b_isinstance : mg "isinstance" = none
  b_len : mg "len" = none
  b_list : mg "list" = none
  b_max : mg "max" = none
  b_min : mg "min" = none
  b_range : mg "range" = none
  b_sorted : mg "sorted" = none
section
variable {P : Program} {w : World} {K : PySem.W.Frag} {mg : Str → Option Value} {base : Heap}
theorem sc_Ltape : FnScope ["_law_script", "_law_cell"] ["_law_script"] (defScope s_Ltape) := ⟨rfl, rfl, rfl, by decide +kernel, rfl, by decide +kernel, by decide +kernel⟩
theorem ok_Ltape (T : Txt K mg) {f : Addr} {fd : FuncData} (F : FD K "_law_tape" s_Ltape f fd)  : FnOk P w K mg base CX0 1 f fd ["_law_script"] (sp_Ltape K) := by
  refine F.ok sc_Ltape (fun vs H Q E h => ?_) (fun cdv A outer s H vs Q E hr h => ⟨t_Ltape K, PSs.nox ?_, ?_⟩)
  · obtain ⟨_, rfl, _⟩ := h
    rfl
  · exact (pss_one (ps_ret (pe_lst (pa_cons (pe_lc (own := [("_law_cell", 1)]) (g := (gName 1)) (tt := (tTest (tOp rGe (tCB rAbs (tCons (tVar 1) tNil)) (tOp rPow (tC (.int 10)) (tC (.int 18)))))) rfl sc_Ltape.nd (pi_list (pe_slice sl_list (pv 0) po_none (po_some pe_int))) (blkOk_by (own := [("_law_cell", 1)]) (N := ["_law_script", "_law_cell"]) (sc := defScope s_Ltape) (by decide +kernel)) (fun _ _ _ _ _ => (pg_name (i := 1) sc_Ltape.nd rfl (Or.inl rfl))) (fun _ _ _ _ _ => (pts_one (pt_cmpR op_ge (pe_callB call_abs (by rfl) T.b_abs (by decide +kernel) (pa_cons (pv 1) pa_nil)) (pe_op op_pow pe_int pe_int) (nomark _)))) (fun _ _ _ _ _ => (pe_callB call_abs (by rfl) T.b_abs (by decide +kernel) (pa_cons (pv 1) pa_nil)))) (pa_cons (pe_callTy call_list_of (by rfl) T.b_list (by decide +kernel) (pa_cons (pe_slice sl_list (pv 0) po_none (po_some pe_int)) pa_nil)) (pa_cons pe_int pa_nil))))))
  · obtain ⟨_, rfl, _⟩ := id h
    exact pure_Ltape h
theorem sc_Ldraw : FnScope ["_law_tape_here", "_law_many", "_law_found", "_law_cell", "_law_number"] ["_law_tape_here", "_law_many"] (defScope s_Ldraw) := ⟨rfl, rfl, rfl, by decide +kernel, rfl, by decide +kernel, by decide +kernel⟩
theorem ok_Ldraw (T : Txt K mg) {f : Addr} {fd : FuncData} (F : FD K "_law_draw" s_Ldraw f fd)  : FnOk P w K mg base CX0 1 f fd ["_law_tape_here", "_law_many"] (sp_Ldraw K) := by
  refine F.ok sc_Ldraw (fun vs H Q E h => ?_) (fun cdv A outer s H vs Q E hr h => ⟨t_Ldraw K, PSs.nox ?_, ?_⟩)
  · obtain ⟨_, _, rfl, _⟩ := h
    rfl
  · exact (pss_cons (ps_asg (pe_op op_add (pe_ix ix_list (pv 0) pe_int (fun _ _ => rfl)) pe_int) (pg_sub (pv 0) pe_int set_list))
  (pss_cons (ps_while PassesOwn.never (PW.pt (pw_and (pt_cmpR op_gt (pe_callB call_len_seq (by rfl) T.b_len (by decide +kernel) (pa_cons (pe_ix ix_list (pv 0) pe_int (fun _ _ => rfl)) pa_nil)) pe_int (nomark _)) (pw_and1 (pt_cmpR op_eq (pe_ix ix_list (pe_ix ix_list (pv 0) pe_int (fun _ _ => rfl)) pe_int (fun _ _ => rfl)) pe_int (nomark _))))) (pss_one (ps_expr (pe_bm PySem.F.plainAttrs_list PySem.F.slot_list_pop PySem.F.type_list_pop mt_popAt (pe_ix ix_list (pv 0) pe_int (fun _ _ => rfl)) (pa_cons pe_int pa_nil)))))
  (pss_cons (ps_if (pt_cmpR op_gt (pe_callB call_len_seq (by rfl) T.b_len (by decide +kernel) (pa_cons (pe_ix ix_list (pv 0) pe_int (fun _ _ => rfl)) pa_nil)) pe_int (nomark _)) (pss_cons (ps_set (i := 2) sc_Ldraw.nd rfl (Or.inl rfl) (pe_op op_mod (pe_ix ix_list (pe_ix ix_list (pv 0) pe_int (fun _ _ => rfl)) pe_int (fun _ _ => rfl)) (pv 1)))
  (pss_cons (ps_asg (pe_op op_fdivW (pe_ix ix_list (pe_ix ix_list (pv 0) pe_int (fun _ _ => rfl)) pe_int (fun _ _ => rfl)) (pv 1)) (pg_sub (pe_ix ix_list (pv 0) pe_int (fun _ _ => rfl)) pe_int set_list))
  (pss_one (ps_ret (pv 2))))) pss_nil)
  (pss_cons (ps_set (i := 3) sc_Ldraw.nd rfl (Or.inl rfl) pe_int)
  (pss_cons (ps_if (pt_cmpR op_gt (pe_callB call_len_seq (by rfl) T.b_len (by decide +kernel) (pa_cons (pe_ix ix_list (pv 0) pe_int (fun _ _ => rfl)) pa_nil)) pe_int (nomark _)) (pss_one (ps_set (i := 3) sc_Ldraw.nd rfl (Or.inl rfl) (pe_ix ix_list (pe_ix ix_list (pv 0) pe_int (fun _ _ => rfl)) (pe_op op_mod (pe_ix ix_list (pv 0) pe_int (fun _ _ => rfl)) (pe_callB call_len_seq (by rfl) T.b_len (by decide +kernel) (pa_cons (pe_ix ix_list (pv 0) pe_int (fun _ _ => rfl)) pa_nil))) (fun _ _ => rfl)))) pss_nil)
  (pss_cons (ps_set (i := 4) sc_Ldraw.nd rfl (Or.inl rfl) (pe_op op_mod (pe_op op_mul (pe_op op_add (pe_op op_add (pe_op op_mod (pv 3) pe_int) (pe_op op_mul pe_int (pe_ix ix_list (pv 0) pe_int (fun _ _ => rfl)))) pe_int) pe_int) pe_int))
  (pss_cons (ps_set (i := 4) sc_Ldraw.nd rfl (Or.inl rfl) (pe_op op_mod (pe_op op_add (pe_op op_add (pe_op op_mul (pv 4) (pv 4)) (pe_op op_mul pe_int (pe_ix ix_list (pv 0) pe_int (fun _ _ => rfl)))) pe_int) pe_int))
  (pss_one (ps_ret (pe_op op_mod (pe_op op_fdivW (pe_op op_mod (pe_op op_mul (pe_op op_fdivW (pv 4) pe_int) pe_int) pe_int) pe_int) (pv 1)))))))))))
  · obtain ⟨_, _, rfl, _⟩ := id h
    exact pure_Ldraw h
theorem sc_Lprices : FnScope ["_law_tape_here", "_law_many", "_law_one", "_law_kind", "_law_k"] ["_law_tape_here"] (defScope s_Lprices) := ⟨rfl, rfl, rfl, by decide +kernel, rfl, by decide +kernel, by decide +kernel⟩
theorem ok_Lprices (T : Txt K mg) {f : Addr} {fd : FuncData} (F : FD K "_law_prices" s_Lprices f fd) (c_Ldraw : Y.Cal P w K mg base CX0 1 "_law_draw" (sp_Ldraw K) []) : FnOk P w K mg base CX0 2 f fd ["_law_tape_here"] (sp_Lprices K) := by
  refine F.ok sc_Lprices (fun vs H Q E h => ?_) (fun cdv A outer s H vs Q E hr h => ⟨t_Lprices K, PSs.nox ?_, ?_⟩)
  · obtain ⟨_, rfl, _⟩ := h
    rfl
  · exact (pss_cons (ps_set (i := 1) sc_Lprices.nd rfl (Or.inl rfl) (pe_ix ix_list (pe_lst (pa_cons (Y.pe_c c_Ldraw hr (by decide) rfl pass0 (pa_cons (pv 0) (pa_cons pe_int pa_nil))) (pa_cons (Y.pe_c c_Ldraw hr (by decide) rfl pass0 (pa_cons (pv 0) (pa_cons pe_int pa_nil))) pa_nil))) (Y.pe_c c_Ldraw hr (by decide) rfl pass0 (pa_cons (pv 0) (pa_cons pe_int pa_nil))) (fun _ _ => rfl)))
  (pss_cons (ps_set (i := 2) sc_Lprices.nd rfl (Or.inr rfl) (Y.pe_c c_Ldraw hr (by decide) rfl pass0 (pa_cons (pv 0) (pa_cons (pe_op op_pow pe_int pe_int) pa_nil))))
  (pss_cons (ps_set (i := 3) sc_Lprices.nd rfl (Or.inl rfl) (Y.pe_c c_Ldraw hr (by decide) rfl pass0 (pa_cons (pv 0) (pa_cons pe_int pa_nil))))
  (pss_cons (ps_if (pt_cmpR op_eq (pv 3) pe_int (nomark _)) (pss_one (ps_ret (pe_lc (own := [("_law_k", 4)]) (g := (gName 4)) (tt := tYes) rfl sc_Lprices.nd (pi_range1 rfl T.b_range (pa_cons (pv 1) pa_nil)) (blkOk_by (own := [("_law_k", 4)]) (N := ["_law_tape_here", "_law_many", "_law_one", "_law_kind", "_law_k"]) (sc := defScope s_Lprices) (by decide +kernel)) (fun _ _ _ _ _ => (pg_name (i := 4) sc_Lprices.nd rfl (Or.inl rfl))) (fun _ _ _ _ _ => pts_nil) (fun _ _ _ _ _ => (pe_ix ix_list (pe_lst (pa_cons (pv 2) (pa_cons (pe_op op_add (pv 2) pe_int) pa_nil))) (Y.pe_c c_Ldraw hr (by decide) rfl pass0 (pa_cons (pv 0) (pa_cons pe_int pa_nil))) (fun _ _ => rfl)))))) pss_nil)
  (pss_cons (ps_if (pt_cmpR op_eq (pv 3) pe_int (nomark _)) (pss_one (ps_ret (pe_lc (own := [("_law_k", 4)]) (g := (gName 4)) (tt := tYes) rfl sc_Lprices.nd (pi_range1 rfl T.b_range (pa_cons (pv 1) pa_nil)) (blkOk_by (own := [("_law_k", 4)]) (N := ["_law_tape_here", "_law_many", "_law_one", "_law_kind", "_law_k"]) (sc := defScope s_Lprices) (by decide +kernel)) (fun _ _ _ _ _ => (pg_name (i := 4) sc_Lprices.nd rfl (Or.inl rfl))) (fun _ _ _ _ _ => pts_nil) (fun _ _ _ _ _ => (Y.pe_c c_Ldraw hr (by decide) rfl pass0 (pa_cons (pv 0) (pa_cons pe_int pa_nil))))))) pss_nil)
  (pss_one (ps_ret (pe_lc (own := [("_law_k", 4)]) (g := (gName 4)) (tt := tYes) rfl sc_Lprices.nd (pi_range1 rfl T.b_range (pa_cons (pv 1) pa_nil)) (blkOk_by (own := [("_law_k", 4)]) (N := ["_law_tape_here", "_law_many", "_law_one", "_law_kind", "_law_k"]) (sc := defScope s_Lprices) (by decide +kernel)) (fun _ _ _ _ _ => (pg_name (i := 4) sc_Lprices.nd rfl (Or.inl rfl))) (fun _ _ _ _ _ => pts_nil) (fun _ _ _ _ _ => (pe_ix ix_list (pe_lst (pa_cons pe_int (pa_cons (pe_op op_pow pe_int pe_int) (pa_cons (Y.pe_c c_Ldraw hr (by decide) rfl pass0 (pa_cons (pv 0) (pa_cons (pe_op op_add (pe_op op_pow pe_int pe_int) pe_int) pa_nil))) pa_nil)))) (Y.pe_c c_Ldraw hr (by decide) rfl pass0 (pa_cons (pv 0) (pa_cons pe_int pa_nil))) (fun _ _ => rfl)))))))))))
  · obtain ⟨_, rfl, _⟩ := id h
    exact pure_Lprices h
theorem sc_marked : FnScope ["prices", "deal", "price", "found", "many", "free", "begin", "bundle", "back", "at"] ["prices", "deal"] (defScope s_marked) := ⟨rfl, rfl, rfl, by decide +kernel, rfl, by decide +kernel, by decide +kernel⟩
theorem ok_marked (T : Txt K mg) {f : Addr} {fd : FuncData} (F : FD K "marked" s_marked f fd)  : FnOk P w K mg base CX0 1 f fd ["prices", "deal"] (sp_marked K) := by
  refine F.ok sc_marked (fun vs H Q E h => ?_) (fun cdv A outer s H vs Q E hr h => ⟨t_marked K, PSs.nox ?_, ?_⟩)
  · obtain ⟨_, _, rfl, _⟩ := h
    rfl
  · exact (pss_cons (ps_setLc (i := 3) (own := [("price", 2)]) (g := (gName 2)) (tt := tYes) rfl sc_marked.nd rfl rfl (sw_true rfl rfl rfl (by decide +kernel)) (pi_list (pv 0)) (blkOk_by (own := [("price", 2)]) (N := ["prices", "deal", "price", "found", "many", "free", "begin", "bundle", "back", "at"]) (sc := defScope s_marked) (by decide +kernel)) (fun _ _ _ _ _ => (pg_name (i := 2) sc_marked.nd rfl (Or.inl rfl))) (fun _ _ _ _ _ => pts_nil) (fun _ _ _ _ _ => pe_bl))
  (pss_cons (ps_if (pt_cmpR op_isN (pv 1) pe_non (nomark _)) (pss_one (ps_ret (pv 3))) pss_nil)
  (pss_cons (ps_asg (pv 1) (pg_tup (by rfl) (pgs_cons (pg_name (i := 4) sc_marked.nd rfl (Or.inl rfl)) (pgs_cons (pg_name (i := 5) sc_marked.nd rfl (Or.inl rfl)) pgs_nil))))
  (pss_cons (ps_for PassesOwn.never rfl (pi_range3 rfl T.b_range (pa_cons pe_int (pa_cons (pe_op op_add (pe_op op_sub (pe_callB call_len_seq (by rfl) T.b_len (by decide +kernel) (pa_cons (pv 0) pa_nil)) (pv 4)) pe_int) (pa_cons (pv 4) pa_nil)))) (pg_name (i := 6) sc_marked.nd rfl (Or.inl rfl)) (pss_cons (ps_set (i := 7) sc_marked.nd rfl (Or.inl rfl) (pe_callB cr_sortedPO (by rfl) T.b_sorted (by decide +kernel) (pa_cons (pe_lc (own := [("at", 9)]) (g := (gName 9)) (tt := tYes) rfl sc_marked.nd (pi_range2 rfl T.b_range (pa_cons (pv 6) (pa_cons (pe_op op_add (pv 6) (pv 4)) pa_nil))) (blkOk_by (own := [("at", 9)]) (N := ["prices", "deal", "price", "found", "many", "free", "begin", "bundle", "back", "at"]) (sc := defScope s_marked) (by decide +kernel)) (fun _ _ _ _ _ => (pg_name (i := 9) sc_marked.nd rfl (Or.inl rfl))) (fun _ _ _ _ _ => pts_nil) (fun _ _ _ _ _ => (pe_tup (pa_cons (pe_ix ix_list (pv 0) (pv 9) (fun _ _ => rfl)) (pa_cons (pe_op op_sub (pe_callB call_len_seq (by rfl) T.b_len (by decide +kernel) (pa_cons (pv 0) pa_nil)) (pv 9)) pa_nil))))) pa_nil)))
  (pss_one (ps_for PassesOwn.never rfl (pi_list (pe_slice sl_list (pv 7) po_none (po_some (pv 5)))) (pg_tup (by rfl) (pgs_cons (pg_name (i := 2) sc_marked.nd rfl (Or.inl rfl)) (pgs_cons (pg_name (i := 8) sc_marked.nd rfl (Or.inl rfl)) pgs_nil))) (pss_one (ps_asg pe_bl (pg_sub (pv 3) (pe_op op_sub (pe_callB call_len_seq (by rfl) T.b_len (by decide +kernel) (pa_cons (pv 0) pa_nil)) (pv 8)) set_list)))))))
  (pss_one (ps_ret (pv 3)))))))
  · obtain ⟨_, _, rfl, _⟩ := id h
    exact pure_marked h
theorem sc_Lbundle : FnScope ["_law_prices_here", "_law_marks", "_law_free", "_law_k", "_law_m", "_law_nearer"] ["_law_prices_here", "_law_marks", "_law_free"] (defScope s_Lbundle) := ⟨rfl, rfl, rfl, by decide +kernel, rfl, by decide +kernel, by decide +kernel⟩
theorem ok_Lbundle (T : Txt K mg) {f : Addr} {fd : FuncData} (F : FD K "_law_bundle" s_Lbundle f fd)  : FnOk P w K mg base CX0 1 f fd ["_law_prices_here", "_law_marks", "_law_free"] (sp_Lbundle K) := by
  refine F.ok sc_Lbundle (fun vs H Q E h => ?_) (fun cdv A outer s H vs Q E hr h => ⟨t_Lbundle K, PSs.nox ?_, ?_⟩)
  · obtain ⟨_, _, _, rfl, _⟩ := h
    rfl
  · exact (pss_cons (ps_if (pt_cmpR op_ne (pe_bm PySem.F.plainAttrs_list PySem.F.slot_list_count PySem.F.type_list_count Y.mt_cntV (pv 1) (pa_cons pe_bl pa_nil)) (pv 2) (nomark _)) (pss_one (ps_ret pe_bl)) pss_nil)
  (pss_cons (ps_for PassesOwn.never rfl (pi_range1 rfl T.b_range (pa_cons (pe_callB call_len_seq (by rfl) T.b_len (by decide +kernel) (pa_cons (pv 0) pa_nil)) pa_nil)) (pg_name (i := 3) sc_Lbundle.nd rfl (Or.inl rfl)) (pss_one (ps_for PassesOwn.never rfl (pi_range1 rfl T.b_range (pa_cons (pe_callB call_len_seq (by rfl) T.b_len (by decide +kernel) (pa_cons (pv 0) pa_nil)) pa_nil)) (pg_name (i := 4) sc_Lbundle.nd rfl (Or.inl rfl)) (pss_cons (ps_set (i := 5) sc_Lbundle.nd rfl (Or.inl rfl) (pe_or (pe_cmpR op_lt (pe_ix ix_list (pv 0) (pv 4) (fun _ _ => rfl)) (pe_ix ix_list (pv 0) (pv 3) (fun _ _ => rfl)) (nomark _)) (pe_one (pe_and (pe_cmpR op_eq (pe_ix ix_list (pv 0) (pv 4) (fun _ _ => rfl)) (pe_ix ix_list (pv 0) (pv 3) (fun _ _ => rfl)) (nomark _)) (pe_one (pe_cmpR op_gt (pv 4) (pv 3) (nomark _)))))))
  (pss_one (ps_if (PW.pt (pw_and (pt_val (pe_ix ix_list (pv 1) (pv 3) (fun _ _ => rfl))) (pw_and (pt_not (pt_val (pe_ix ix_list (pv 1) (pv 4) (fun _ _ => rfl)))) (pw_and1 (pt_val (pv 5)))))) (pss_one (ps_ret pe_bl)) pss_nil))))))
  (pss_one (ps_ret pe_bl))))
  · obtain ⟨_, _, _, rfl, _⟩ := id h
    exact pure_Lbundle h
theorem sc_law : FnScope ["_law_script", "_law_tape_here", "_law_turn", "_law_prices_here", "_law_many", "_law_free", "_law_handed", "_law_marks", "_law_whole", "_law_k", "_law_one"] ["_law_script"] (defScope s_law) := ⟨rfl, rfl, rfl, by decide +kernel, rfl, by decide +kernel, by decide +kernel⟩
theorem ok_law (T : Txt K mg) {f : Addr} {fd : FuncData} (F : FD K "law" s_law f fd) (c_Ltape : Y.Cal P w K mg base CX0 1 "_law_tape" (sp_Ltape K) []) (c_Lprices : Y.Cal P w K mg base CX0 2 "_law_prices" (sp_Lprices K) []) (c_Ldraw : Y.Cal P w K mg base CX0 1 "_law_draw" (sp_Ldraw K) []) (c_marked : Y.Cal P w K mg base CX0 1 "marked" (sp_marked K) []) (c_Lbundle : Y.Cal P w K mg base CX0 1 "_law_bundle" (sp_Lbundle K) []) : FnOk P w K mg base CX0 3 f fd ["_law_script"] (sp_law K) := by
  refine F.ok sc_law (fun vs H Q E h => ?_) (fun cdv A outer s H vs Q E hr h => ⟨t_law K, PSs.nox ?_, ?_⟩)
  · obtain ⟨_, rfl, _⟩ := h
    rfl
  · exact (pss_cons (ps_set (i := 1) sc_law.nd rfl (Or.inl rfl) (Y.pe_c c_Ltape hr (by decide) rfl pass0 (pa_cons (pv 0) pa_nil)))
  (pss_cons (ps_for PassesOwn.never rfl (pi_range1 rfl T.b_range (pa_cons pe_int pa_nil)) (pg_name (i := 2) sc_law.nd rfl (Or.inl rfl)) (pss_cons (ps_set (i := 3) sc_law.nd rfl (Or.inl rfl) (Y.pe_c c_Lprices hr (by decide) rfl pass0 (pa_cons (pv 1) pa_nil)))
  (pss_cons (ps_set (i := 4) sc_law.nd rfl (Or.inl rfl) (pe_ix ix_list (pe_lst (pa_cons (pe_op op_add pe_int (Y.pe_c c_Ldraw hr (by decide) rfl pass0 (pa_cons (pv 1) (pa_cons pe_int pa_nil)))) (pa_cons (pe_callB (call_min2 rfl) (by rfl) T.b_min (by decide +kernel) (pa_cons pe_int (pa_cons (pe_callB (call_max2 rfl) (by rfl) T.b_max (by decide +kernel) (pa_cons pe_int (pa_cons (pe_op op_add (pe_op op_sub (pe_callB call_len_seq (by rfl) T.b_len (by decide +kernel) (pa_cons (pv 3) pa_nil)) pe_int) (Y.pe_c c_Ldraw hr (by decide) rfl pass0 (pa_cons (pv 1) (pa_cons pe_int pa_nil)))) pa_nil))) pa_nil))) pa_nil))) (Y.pe_c c_Ldraw hr (by decide) rfl pass0 (pa_cons (pv 1) (pa_cons pe_int pa_nil))) (fun _ _ => rfl)))
  (pss_cons (ps_set (i := 5) sc_law.nd rfl (Or.inl rfl) (pe_ix ix_list (pe_lst (pa_cons pe_int (pa_cons (pe_op op_sub (pv 4) pe_int) (pa_cons (pe_op op_add pe_int (Y.pe_c c_Ldraw hr (by decide) rfl pass0 (pa_cons (pv 1) (pa_cons (pe_op op_sub (pv 4) pe_int) pa_nil)))) pa_nil)))) (Y.pe_c c_Ldraw hr (by decide) rfl pass0 (pa_cons (pv 1) (pa_cons pe_int pa_nil))) (fun _ _ => rfl)))
  (pss_cons (ps_set (i := 6) sc_law.nd rfl (Or.inl rfl) (pe_callTy call_list_of (by rfl) T.b_list (by decide +kernel) (pa_cons (pv 3) pa_nil)))
  (pss_cons (ps_set (i := 7) sc_law.nd rfl (Or.inl rfl) (Y.pe_c c_marked hr (by decide) rfl pass0 (pa_cons (pv 6) (pa_cons (pe_tup (pa_cons (pv 4) (pa_cons (pv 5) pa_nil))) pa_nil))))
  (pss_cons (ps_if (PW.pt (pw_or (pt_not (pt_val (pe_callB call_isi (by rfl) T.b_isinstance (by decide +kernel) (pa_cons (pv 7) (pa_cons (pe_bltn (v := .ty "list") (by rfl) T.b_list (by decide +kernel) rfl) pa_nil))))) (pw_or (pt_cmpR op_ne (pe_callB call_len_seq (by rfl) T.b_len (by decide +kernel) (pa_cons (pv 7) pa_nil)) (pe_callB call_len_seq (by rfl) T.b_len (by decide +kernel) (pa_cons (pv 3) pa_nil)) (nomark _)) (pw_or1 (pt_cmpR (op_neD hr.units) (pv 6) (pv 3) (nomark _)))))) (pss_one (ps_ret pe_bl)) pss_nil)
  (pss_cons (ps_if (pt_not (pt_val (pe_callB (cr_all rfl) (by rfl) T.b_all (by decide +kernel) (pa_cons (pe_lc (own := [("_law_one", 10)]) (g := (gName 10)) (tt := tYes) rfl sc_law.nd (pi_list (pv 7)) (blkOk_by (own := [("_law_one", 10)]) (N := ["_law_script", "_law_tape_here", "_law_turn", "_law_prices_here", "_law_many", "_law_free", "_law_handed", "_law_marks", "_law_whole", "_law_k", "_law_one"]) (sc := defScope s_law) (by decide +kernel)) (fun _ _ _ _ _ => (pg_name (i := 10) sc_law.nd rfl (Or.inl rfl))) (fun _ _ _ _ _ => pts_nil) (fun _ _ _ _ _ => (pe_callB call_isi (by rfl) T.b_isinstance (by decide +kernel) (pa_cons (pv 10) (pa_cons (pe_bltn (v := .ty "bool") (by rfl) T.b_bool (by decide +kernel) rfl) pa_nil))))) pa_nil)))) (pss_one (ps_ret pe_bl)) pss_nil)
  (pss_cons (ps_set (i := 8) sc_law.nd rfl (Or.inl rfl) (pe_op op_fdivW (pe_callB call_len_seq (by rfl) T.b_len (by decide +kernel) (pa_cons (pv 3) pa_nil)) (pv 4)))
  (pss_cons (ps_for PassesOwn.never rfl (pi_range1 rfl T.b_range (pa_cons (pv 8) pa_nil)) (pg_name (i := 9) sc_law.nd rfl (Or.inl rfl)) (pss_one (ps_if (pt_not (pt_val (Y.pe_c c_Lbundle hr (by decide) rfl pass0 (pa_cons (pe_slice sl_list (pv 3) (po_some (pe_op op_mul (pv 9) (pv 4))) (po_some (pe_op op_add (pe_op op_mul (pv 9) (pv 4)) (pv 4)))) (pa_cons (pe_slice sl_list (pv 7) (po_some (pe_op op_mul (pv 9) (pv 4))) (po_some (pe_op op_add (pe_op op_mul (pv 9) (pv 4)) (pv 4)))) (pa_cons (pv 5) pa_nil)))))) (pss_one (ps_ret pe_bl)) pss_nil)))
  (pss_one (ps_if (PW.pt (pw_or (pt_cmpR op_in_seq pe_bl (pe_slice sl_list (pv 7) (po_some (pe_op op_mul (pv 8) (pv 4))) po_none) (by rfl)) (pw_or1 (pt_cmpR (op_neD hr.units) (Y.pe_c c_marked hr (by decide) rfl pass0 (pa_cons (pe_callTy call_list_of (by rfl) T.b_list (by decide +kernel) (pa_cons (pv 3) pa_nil)) (pa_cons pe_non pa_nil))) (pe_lc (own := [("_law_one", 10)]) (g := (gName 10)) (tt := tYes) rfl sc_law.nd (pi_list (pv 3)) (blkOk_by (own := [("_law_one", 10)]) (N := ["_law_script", "_law_tape_here", "_law_turn", "_law_prices_here", "_law_many", "_law_free", "_law_handed", "_law_marks", "_law_whole", "_law_k", "_law_one"]) (sc := defScope s_law) (by decide +kernel)) (fun _ _ _ _ _ => (pg_name (i := 10) sc_law.nd rfl (Or.inl rfl))) (fun _ _ _ _ _ => pts_nil) (fun _ _ _ _ _ => pe_bl)) (nomark _))))) (pss_one (ps_ret pe_bl)) pss_nil))))))))))))
  (pss_one (ps_ret pe_bl))))
  · obtain ⟨_, rfl, _⟩ := id h
    exact pure_law h
end
/-! the head: facts by names, the run of the top -/
def d_Ltape : He.DefD := ⟨("_law_tape", none), "_law_tape", "_law_tape", defArgs s_Ltape, defBody s_Ltape, defScope s_Ltape, [], []⟩
def d_Ldraw : He.DefD := ⟨("_law_draw", none), "_law_draw", "_law_draw", defArgs s_Ldraw, defBody s_Ldraw, defScope s_Ldraw, [], []⟩
def d_Lprices : He.DefD := ⟨("_law_prices", none), "_law_prices", "_law_prices", defArgs s_Lprices, defBody s_Lprices, defScope s_Lprices, [], []⟩
def d_marked : He.DefD := ⟨("marked", none), "marked", "marked", defArgs s_marked, defBody s_marked, defScope s_marked, [], []⟩
def d_Lbundle : He.DefD := ⟨("_law_bundle", none), "_law_bundle", "_law_bundle", defArgs s_Lbundle, defBody s_Lbundle, defScope s_Lbundle, [], []⟩
def d_law : He.DefD := ⟨("law", none), "law", "law", defArgs s_law, defBody s_law, defScope s_law, [], []⟩
def fn : List He.DefD := [d_Ltape, d_Ldraw, d_Lprices, d_marked, d_Lbundle, d_law]
def fa : List He.Fa := [.glo "_law_tape", .glo "_law_draw", .glo "_law_prices", .glo "marked", .glo "_law_bundle", .glo "law", .free "abs", .free "all", .free "bool", .free "isinstance", .free "len", .free "list", .free "max", .free "min", .free "range", .free "sorted"]
abbrev R : PySem.W.OpenRow := PySem.W.OpenLaw.row PySem.Challenge.rw_stayprice_k31_marked
abbrev hk : PySem.W.Hook := He.hookD 4 fa fn
def ob (s : PySem.W.SharedT) : He.AlD := He.obsDG 4 fa fn (HandSHeadRun.getT s)
theorem ob_eq (s : PySem.W.SharedT) : ob s = hk.obs s.abs := He.obsDG_eq (HandSHeadRun.getT_eq s)
def loose : List PySem.Str := ["marked", "_law_tape", "_law_draw", "_law_prices", "_law_bundle"]
theorem run (w : World) : HandSHeadRun.RunEq R (PySem.W.view R.prog [7]) hk ob 6000 loose w := by
  intro os
  kernel_rfl
theorem facts {P : Program} {w : World} {K : PySem.W.Frag} {h : Heap} {mg : Str → Option Value} {f : Addr} (X : K.In h) (G : h.Ns mainGlobals mg) (hfa : mg ("law" : Str) = some (.ref f)) (c : He.SaysD fa fn K) :
    ∃ fd : FuncData, (∀ (s : Shared) (v : Value), BindsTo s fd ⟨[v], []⟩ [("_law_script", v)]) ∧ ∀ base : Heap, K.In base → base.Ns mainGlobals mg → FnOk P w K mg base CX0 3 f fd ["_law_script"] (sp_law K) := by
  obtain ⟨fd_Ltape, F_Ltape⟩ := c.def_ 0 (d := d_Ltape) rfl
  obtain ⟨fd_Ldraw, F_Ldraw⟩ := c.def_ 1 (d := d_Ldraw) rfl
  obtain ⟨fd_Lprices, F_Lprices⟩ := c.def_ 2 (d := d_Lprices) rfl
  obtain ⟨fd_marked, F_marked⟩ := c.def_ 3 (d := d_marked) rfl
  obtain ⟨fd_Lbundle, F_Lbundle⟩ := c.def_ 4 (d := d_Lbundle) rfl
  obtain ⟨fd_law, F_law⟩ := c.def_ 5 (d := d_law) rfl
  have T : Txt K mg := ⟨He.free_ok X G (c.fact 6 (f := .free "abs") rfl), He.free_ok X G (c.fact 7 (f := .free "all") rfl), He.free_ok X G (c.fact 8 (f := .free "bool") rfl), He.free_ok X G (c.fact 9 (f := .free "isinstance") rfl), He.free_ok X G (c.fact 10 (f := .free "len") rfl), He.free_ok X G (c.fact 11 (f := .free "list") rfl), He.free_ok X G (c.fact 12 (f := .free "max") rfl), He.free_ok X G (c.fact 13 (f := .free "min") rfl), He.free_ok X G (c.fact 14 (f := .free "range") rfl), He.free_ok X G (c.fact 15 (f := .free "sorted") rfl)⟩
  have e := hfa.symm.trans (He.glo_ok X G (c.fact 5 (f := .glo "law") rfl))
  cases e
  have b := FunD.bindsA (ps := ["_law_script"]) F_law fun _ _ _ _ _ _ us hl => match us, hl with | [_], _ => rfl
  refine ⟨fd_law, fun s v => b s [v] rfl, fun base _ _ => ?_⟩
  have c_Ltape : Y.Cal P w K mg base CX0 1 "_law_tape" (sp_Ltape K) [] := ⟨_, fd_Ltape, ["_law_script"], [], ok_Ltape T F_Ltape , He.glo_ok X G (c.fact 0 (f := .glo "_law_tape") rfl), F_Ltape.kp, F_Ltape.bindsN fun _ _ _ _ _ _ us hl => match us, hl with | [_], _ => rfl, .nil⟩
  have c_Ldraw : Y.Cal P w K mg base CX0 1 "_law_draw" (sp_Ldraw K) [] := ⟨_, fd_Ldraw, ["_law_tape_here", "_law_many"], [], ok_Ldraw T F_Ldraw , He.glo_ok X G (c.fact 1 (f := .glo "_law_draw") rfl), F_Ldraw.kp, F_Ldraw.bindsN fun _ _ _ _ _ _ us hl => match us, hl with | [_, _], _ => rfl, .nil⟩
  have c_Lprices : Y.Cal P w K mg base CX0 2 "_law_prices" (sp_Lprices K) [] := ⟨_, fd_Lprices, ["_law_tape_here"], [], ok_Lprices T F_Lprices c_Ldraw, He.glo_ok X G (c.fact 2 (f := .glo "_law_prices") rfl), F_Lprices.kp, F_Lprices.bindsN fun _ _ _ _ _ _ us hl => match us, hl with | [_], _ => rfl, .nil⟩
  have c_marked : Y.Cal P w K mg base CX0 1 "marked" (sp_marked K) [] := ⟨_, fd_marked, ["prices", "deal"], [], ok_marked T F_marked , He.glo_ok X G (c.fact 3 (f := .glo "marked") rfl), F_marked.kp, F_marked.bindsN fun _ _ _ _ _ _ us hl => match us, hl with | [_, _], _ => rfl, .nil⟩
  have c_Lbundle : Y.Cal P w K mg base CX0 1 "_law_bundle" (sp_Lbundle K) [] := ⟨_, fd_Lbundle, ["_law_prices_here", "_law_marks", "_law_free"], [], ok_Lbundle T F_Lbundle , He.glo_ok X G (c.fact 4 (f := .glo "_law_bundle") rfl), F_Lbundle.kp, F_Lbundle.bindsN fun _ _ _ _ _ _ us hl => match us, hl with | [_, _, _], _ => rfl, .nil⟩
  exact ok_law T F_law c_Ltape c_Lprices c_Ldraw c_marked c_Lbundle
end Y
open PySem PySem.W PySem.Calls PyProof.Rows
set_option maxRecDepth 100000 in
set_option maxHeartbeats 0 in
theorem PySem.Challenge.cw_stayprice_k31_marked_holds : PySem.Challenge.rw_stayprice_k31_marked.Holds := by
  w_on; o_law
  refine HandSHeadRun.head_any (r := OpenLaw.row PySem.Challenge.rw_stayprice_k31_marked) (q := view (OpenLaw.row PySem.Challenge.rw_stayprice_k31_marked).prog [7]) (H := Y.hk) (ob := Y.ob) (M := 6000) (loose := Y.loose) (d := HandSHeadRun.topDef (OpenLaw.row PySem.Challenge.rw_stayprice_k31_marked).prog 7) (kwd := []) Y.ob_eq
    (by kernel_rfl) (fun s => by kernel_rfl) Y.run (by kernel_rfl) (by kernel_rfl) (by kernel_rfl) (by rfl) (by first | assumption | decide +kernel) (by decide +kernel) ⟨rfl, rfl, rfl, rfl, rfl, by decide +kernel⟩ ?hw ?hc
  case hw => w_witness2
  case hc =>
    refine L2.walk_ofE (l := PySem.Challenge.rw_stayprice_k31_marked) (n := 63) (k := 3) (x := "_law_script") (CX := L2.CX0) rfl (by decide) (by kernel_rfl) ⟨rfl, by decide, by decide⟩ ?F (fun _ _ _ _ z => z)
    intro w mg fa h Y G hmg0
    obtain ⟨K, KX, c⟩ := Y
    have hmg : mg ("law" : PySem.Str) = some (.ref fa) := by
      have e : (HandSHeadRun.topDef (OpenLaw.row PySem.Challenge.rw_stayprice_k31_marked).prog 7).name = ("law" : PySem.Str) := by kernel_rfl
      rw [← e]
      exact hmg0
    obtain ⟨fd, hb, hF⟩ := Y.facts (P := (PySem.Challenge.rw_stayprice_k31_marked).prog) (w := w) KX G hmg c
    exact ⟨K, fd, Y.sp_law K, KX, hb, fun H a ns hl _ hS => ⟨_, rfl, a, ns, rfl, hS, hl, fun _ => rfl⟩, hF⟩
